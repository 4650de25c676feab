import PyProof.Rows.All
import Wide.All
import OpenK.AllK
import Wide.FinOn
import KE.KStateDown
import HandS.ForMost
import HandS.IsInst
import HandS.Defaults
import HandS.Wide
import HandS.SortInts
import HandS.SortRule
import HandS.Strs
import HandS.SetFor
import HandS.Style
import HandS.Conv
import HandS.More
import HandS.Walk
import HandS.Flow
import HandS.Head0
import HandS.Head1
import HandS.Head2
import HandS.HeadEnd
import HandS.HeadHook1
import HandS.HeadHook2
import HandS.EndBits
import HandS.WordsDict
import HandS.Small
import KE.KDictList
import HandS.Deep
import HandS.Exc
import HandS.ExcOwn
import HandS.ExcIs
import HandS.TryOnly
import HandS.WordsExc
import HandS.Lambda
import HandS.EndTab
import HandS.HeadHook4
import HandS.HeadWalk
import KE.KNestM
import PySem.Challenge.RW_songturns_k13_whole_hard
set_option Elab.async false
set_option linter.all false
set_option maxRecDepth 100000
set_option maxHeartbeats 4000000
/-! ### SetL: set(xs) of a list of int numbers, as a value -/
namespace Song
open PySem PySem.Spec PyProof.Rows L2
/-- a set just laid -/
abbrev set0 (w : World) : Obj := ⟨.type "set", none, .set #[] 0 (.fresh 0 0 (!w.params.followText "set-order")), #[]⟩
section
variable {P : Program} {w : World} {A : Around} {E : Value → Shared → Prop} {s : Shared}
set_option maxHeartbeats 8000000 in
theorem set_of_list {l : Addr} {its : Array Value} (ks : List Int) {Q : Value → Shared → Prop} (nh : A.handled = none) (isl : s.heap.IsList l its) (hint : IntsAre its.toList ks) (few : ks.length + 1 < scanBound)
    (q : ∀ (h2 : Heap) (tk c : Nat), SetR w h2 s.heap.objs.size (fun j => decide (j ∈ ks)) c → c ≤ ks.length → (∀ b o, s.heap.get? b = some o → h2.get? b = some o) → Q (.ref s.heap.objs.size) { s with heap := h2, toks := tk }) :
    wpAny (model P w) A (call (.type "set") [.ref l]) Q E s := by
  have lenI : its.size = ks.length := by have z := IntsAre.length hint; rw [Array.length_toList] at z; exact z
  obtain ⟨_, _, mroS⟩ := F.called_set.mro
  have madeS := F.called_set.made
  have subS := F.called_set.sub
  refine wpAny_call (codeAny_of_tree ?_)
  show wpAny _ _ (callAny (.type "set") _) _ _ _
  refine wpAny_pure ⟨Code.quiet_builtin _ (by decide +kernel), codeAny_builtin F.entry_type_call ?_⟩
  rw [Around.under_plain (weight_type_call_type "set" [.ref l] []) rfl]
  have n1 := F.called_set.notType
  have n2 := F.called_set.canCreate
  have n3 := F.typeCall_set_1 (.ref l)
  repeat (any_goals (first | assumption | wp_step))
  refine codeAny_mono (code_set_led1 (.ref l) (E := E) (Q₁ := fun ob s1 => ob = .ref s.heap.objs.size ∧ s1 = { s with heap := s.heap.push (set0 w) }) ⟨rfl, rfl⟩) fun res s1 hres => ?_
  cases res with
  | error e => exact hres
  | ok fl =>
    cases fl with
    | ret ob =>
      obtain ⟨rfl, rfl⟩ := hres
      have atS : (s.heap.push (set0 w)).get? s.heap.objs.size = some (set0 w) := Heap.get?_push_size _ rfl
      have tyS : Shared.TypeIs { s with heap := s.heap.push (set0 w) } (.ref s.heap.objs.size) "set" := ⟨_, atS, rfl⟩
      have i1 := F.called_set.init.lookup
      have i2 := F.called_set.init.bind (.ref s.heap.objs.size)
      repeat (any_goals (first | assumption | wp_step))
      refine codeAny_mono (codeAny_call_builtin (R := wants (fun r s2 => r = .none ∧ ∃ h2 tk c, s2 = { s with heap := h2, toks := tk } ∧ SetR w h2 s.heap.objs.size (fun j => decide (j ∈ ks)) c ∧ c ≤ ks.length ∧
        (∀ b o, s.heap.get? b = some o → h2.get? b = some o)) E) F.called_set.init.plain F.entry_set_init (check_set_init_1 tyS ?_)) fun r2 s2 hr2 => ?_
      · obtain ⟨⟨oc, od, odt, osl⟩, ho, c1, nl, c2⟩ := isl
        simp only at c1 c2
        subst c1; subst c2
        have ho1 : (s.heap.push (set0 w)).get? l = some ⟨.type "list", od, .seq its nl, osl⟩ := Heap.get?_push_of_some _ ho
        have u1 := F.sub_list_set
        have u2 := F.sub_list_frozenset
        have u3 : (Value.type "list" == Value.type "dict") = false := by decide
        have isl1 : (s.heap.push (set0 w)).IsList l its := ⟨_, ho1, rfl, nl, rfl⟩
        unfold Builtin.«set.__init__» noKeywords Builtin.Frozenset.updateFrom
        generalize keepI : pyIter = PI
        wp_walk
        subst keepI
        refine wpAny_pyIter_list isl1 ?_
        refine wpAny_bind (wpAny_runValue ?_)
        have lt : l < s.heap.objs.size := Heap.lt_size ho
        have nh3 : A.in1.in1.in1.handled = none := by simp [nh]
        have ne1 : l ≠ (s.heap.push (set0 w)).objs.size := by rw [Heap.size_push]; exact Nat.ne_of_lt (Nat.lt_succ_of_lt lt)
        have ne2 : s.heap.objs.size ∉ [(s.heap.push (set0 w)).objs.size, l] := by
          rw [Heap.size_push]
          simp only [List.mem_cons, List.not_mem_nil, or_false, not_or]
          exact And.intro (Nat.ne_of_lt (Nat.lt_succ_self _)) (Nat.ne_of_gt lt)
        have vals : ∀ (i : Nat) (v : Value), its[i]? = some v → ∃ k t, ks[i]? = some k ∧ v = .int k t := fun i v hv => by
          have lti : i < ks.length := by rw [← lenI]; exact (Array.getElem?_eq_some_iff.mp hv).1
          obtain ⟨t, e⟩ := PyProof.Rows.IntsAre.int_at hint i v (by rw [Array.getElem?_toList]; exact hv)
          refine ⟨ks[i], t, List.getElem?_eq_getElem lti, ?_⟩
          rw [e, List.getD_eq_getElem?_getD, List.getElem?_eq_getElem lti] <;> rfl
        refine set_update_ints ((Walks.list nh3 _ l ne1 its).toS) s.heap.objs.size ne2 ks lenI few vals (its.size - 0) 0 _ (by omega) (Nat.zero_le _)
          ⟨⟨_, Heap.get?_push_size _ rfl, rfl, rfl⟩, (isl1.push _)⟩ ⟨0, Nat.le_refl 0, setR_new_at (Heap.get?_push_of_some _ atS)⟩ ?_
        intro s3 c3 mv hc3 hS3
        obtain ⟨h3, g3, d3, t3, o3⟩ := s3
        have eg : g3 = s.gens := mv.gens
        have ed : d3 = s.drawn := mv.drawn
        have eo : o3 = s.os := mv.os
        subst eg; subst ed; subst eo
        show wpAny _ _ _ _ _ _
        refine wpAny_pure ?_
        show wpAny _ _ (ret Value.none) _ _ _
        rw [lenI] at hc3
        refine wpAny_pure ⟨rfl, h3, t3, c3, rfl, hS3, hc3, fun b o e => ?_⟩
        have b0 : b < s.heap.objs.size := Heap.lt_size e
        refine mv.heap b o ?_ (Heap.get?_push_of_some _ (Heap.get?_push_of_some _ e))
        rw [Heap.size_push]
        simp only [List.mem_cons, List.not_mem_nil, or_false, not_or]
        exact And.intro (Nat.ne_of_lt b0) (Nat.ne_of_lt (Nat.lt_succ_of_lt b0))
      · cases r2 with
        | error e => exact hr2
        | ok f2 =>
          cases f2 with
          | ret r =>
            obtain ⟨rfl, h2, tk, c, rfl, hS, hc, hk⟩ := hr2
            repeat (any_goals (first | assumption | wp_step))
            exact q _ _ _ hS hc hk
          | _ => exact hr2.elim
    | _ => exact hres.elim
end
/-- set(xs), xs a list of int numbers: who is in, and no more than there were -/
def rSetI (K : PySem.W.Frag) (w : World) : List V → Hp → VK → Prop := fun xs H Q => ∃ (l : Addr) (ks : List Int), xs = [V.ref l] ∧ SqL K H l (ks.map V.int) ∧ ks.length ≤ 1000 ∧
  ∀ (a : Addr) (c : Nat), c ≤ ks.length → H a = none → Q (.ref a) (upd H a (SetO w a (fun j => decide (j ∈ ks)) c))
theorem cr_setI {X : Cx} (hc : X.calm = true) : CallR X (.type "set") (rSetI X.K X.w) := by
  intro pins s σ H xs us Q I r h
  obtain ⟨l, ks, rfl, hs, hl, q⟩ := h
  obtain ⟨its, rv, ⟨o, n, ho, c1, c2, c3⟩, hlen⟩ := I.list hs
  have hint : IntsAre its ks := ints_of_vals rv
  have isl : s.heap.IsList l its.toArray := ⟨o, ho, c1, n, c3⟩
  rw [Vals.ref1 r]
  refine set_of_list ks (I.ok.hd hc) isl (by simpa using hint) (by unfold scanBound; omega) fun h2 tk c hS hcl hk => ?_
  have hn : H s.heap.objs.size = none := I.hok.fresh (Nat.le_refl _)
  obtain ⟨o2, es, ep, st, ho2, rest⟩ := id hS
  refine ⟨.ref s.heap.objs.size, _, I.laid (t' := tk) (fun b u e => hk b u e) (Nat.le_refl _) ?_, rfl, q _ c hcl hn⟩
  exact setO_new hS
end Song

/-! ### Lay: what every def's proof leans on (own layer over the hand layer) -/
namespace Song
open PySem L2

/-! #### heaps -/
theorem Same.new {H : Hp} {p : Addr} {o : HO} (n : H p = none) : Same H (upd H p o) := fun b o' e => by
  rw [upd_ne (ne_of_none e n)]
  exact e
/-- a new object: the heap behind it is only known to extend the one ahead -/
theorem new_all {H : Hp} {o : HO} {Q : Addr → Hp → Prop} (h : ∀ p H', H p = none → Same H H' → H' p = some o → Q p H') : ∀ p, H p = none → Q p (upd H p o) :=
  fun p n => h p _ n (Same.new n) upd_same
/-- behind a new object: the heap is only known to extend the one ahead -/
@[elab_as_elim] theorem to_new {H : Hp} {p : Addr} {o : HO} {Q : Hp → Prop} (n : H p = none) (h : ∀ H', Same H H' → H' p = some o → Q H') : Q (upd H p o) := h _ (Same.new n) upd_same
/-- a heap without some addresses -/
def off (S : List Addr) (H : Hp) : Hp := fun a => if a ∈ S then none else H a
theorem off_in {S : List Addr} {H : Hp} {a : Addr} (h : a ∈ S) : off S H a = none := by unfold off; rw [if_pos h]
theorem off_out {S : List Addr} {H : Hp} {a : Addr} (h : a ∉ S) : off S H a = H a := by unfold off; rw [if_neg h]
theorem off_some {S : List Addr} {H : Hp} {a : Addr} {o : HO} (h : off S H a = some o) : a ∉ S ∧ H a = some o := by
  by_cases q : a ∈ S
  · rw [off_in q] at h; cases h
  · rw [off_out q] at h; exact ⟨q, h⟩
theorem off_le (S : List Addr) (H : Hp) : Same (off S H) H := fun _ _ h => (off_some h).2
theorem off_mono {S : List Addr} {H H' : Hp} (s : Same H H') : Same (off S H) (off S H') := fun b o h => by
  obtain ⟨q, h⟩ := off_some h
  rw [off_out q]; exact s _ _ h
/-- all but the addresses S stays -/
def Fra (S : List Addr) (H H' : Hp) : Prop := ∀ a o, a ∉ S → H a = some o → H' a = some o
theorem Fra.refl (S : List Addr) (H : Hp) : Fra S H H := fun _ _ _ h => h
theorem Fra.of {S : List Addr} {H H' : Hp} (s : Same H H') : Fra S H H' := fun a o _ h => s a o h
theorem Fra.trans {S : List Addr} {H H1 H2 : Hp} (a : Fra S H H1) (b : Fra S H1 H2) : Fra S H H2 := fun c o n h => b c o n (a c o n h)
theorem Fra.mono {S S' : List Addr} {H H' : Hp} (f : Fra S H H') (h : ∀ a ∈ S, a ∈ S') : Fra S' H H' := fun a o n e => f a o (fun q => n (h a q)) e
theorem Fra.put {S : List Addr} {H : Hp} {a : Addr} {o : HO} (h : a ∈ S) : Fra S H (upd H a o) := fun b o' n e => by
  have q : b ≠ a := fun q => n (by rw [q]; exact h)
  rw [upd_ne q]; exact e
@[elab_as_elim] theorem to_put {H : Hp} {p : Addr} {o : HO} {Q : Hp → Prop} (h : ∀ H', Fra [p] H H' → H' p = some o → Q H') : Q (upd H p o) := h _ (Fra.put (by simp)) upd_same
theorem Fra.one {H H' : Hp} {p a : Addr} {o : HO} (f : Fra [p] H H') (n : a ≠ p) (h : H a = some o) : H' a = some o := f a o (by simpa using n) h
theorem Fra.off {S : List Addr} {H H' : Hp} (f : Fra S H H') : Same (off S H) (off S H') := fun b o h => by
  obtain ⟨q, h⟩ := off_some h
  rw [off_out q]; exact f _ _ q h
theorem Fra.same {H H' : Hp} (f : Fra [] H H') : Same H H' := fun b o h => f b o (by simp) h
/-- what is new to H stays outside of what H tells -/
theorem Fra.back {H0 H H' : Hp} {S : List Addr} (s : Same H0 H) (f : Fra S H H') (h : ∀ a ∈ S, H0 a = none) : Same H0 H' := fun b o e =>
  f b o (fun q => by rw [h b q] at e; cases e) (s b o e)
theorem Same.sqT {K : PySem.W.Frag} {H H' : Hp} {a : Addr} {xs : List V} (e : Same H H') (h : SqT K H a xs) : SqT K H' a xs := by
  rcases h with (h | ⟨o, h⟩) | h
  · exact .inl (.inl (e _ _ h))
  · exact .inl (.inr ⟨o, e _ _ h⟩)
  · exact .inr h
mutual
theorem dp_mono {K : PySem.W.Frag} {H H' : Hp} (e : Same H H') : ∀ {v : V} {d : PyData}, Dp K H v d → Dp K H' v d
  | _, _, .non => .non
  | _, _, .bl b => .bl b
  | _, _, .int i => .int i
  | _, _, .str x => .str x
  | _, _, .lst s a => .lst (e.seq s) (dpAll_mono e a)
  | _, _, .tup s a => .tup (Same.sqT e s) (dpAll_mono e a)
theorem dpAll_mono {K : PySem.W.Frag} {H H' : Hp} (e : Same H H') : ∀ {vs : List V} {ds : List PyData}, DpAll K H vs ds → DpAll K H' vs ds
  | _, _, .nil => .nil
  | _, _, .cons d a => .cons (dp_mono e d) (dpAll_mono e a)
end
theorem dpAll_app {K : PySem.W.Frag} {H : Hp} : ∀ {vs ws : List V} {ds es : List PyData}, DpAll K H vs ds → DpAll K H ws es → DpAll K H (vs ++ ws) (ds ++ es)
  | _, _, _, _, .nil, h => h
  | _, _, _, _, .cons d a, h => .cons d (dpAll_app a h)
theorem dpAll_len {K : PySem.W.Frag} {H : Hp} : ∀ {vs : List V} {ds : List PyData}, DpAll K H vs ds → vs.length = ds.length
  | _, _, .nil => rfl
  | _, _, .cons _ a => by simp [dpAll_len a]
theorem dpAll_get {K : PySem.W.Frag} {H : Hp} : ∀ {vs : List V} {ds : List PyData} {i : Nat} {v : V}, DpAll K H vs ds → vs[i]? = some v → ∃ d, ds[i]? = some d ∧ Dp K H v d
  | _, _, _, _, .nil, e => by simp at e
  | _, _, 0, _, .cons d a, e => by
    simp at e; subst e; exact ⟨_, rfl, d⟩
  | _, _, i + 1, v, .cons d a, e => by
    obtain ⟨d', h1, h2⟩ := dpAll_get (i := i) (v := v) a (by simpa using e)
    exact ⟨d', by simpa using h1, h2⟩
theorem dpAll_ints {K : PySem.W.Frag} {H : Hp} : ∀ (ns : List Int), DpAll K H (ns.map V.int) (ns.map PyData.int)
  | [] => .nil
  | n :: r => .cons (.int n) (dpAll_ints r)
theorem dp_ints {K : PySem.W.Frag} {H : Hp} {a : Addr} {ns : List Int} (h : SqL K H a (ns.map V.int)) : Dp K H (.ref a) (.list (ns.map PyData.int)) := .lst h (dpAll_ints ns)
theorem ints_inj : ∀ {ns ms : List Int}, ns.map V.int = ms.map V.int → ns = ms
  | [], [], _ => rfl
  | [], _ :: _, h => by cases h
  | _ :: _, [], h => by cases h
  | a :: r, b :: s, h => by
    simp only [List.map_cons, List.cons.injEq, V.int.injEq] at h
    rw [h.1, ints_inj h.2]

/-! #### calls of the program's own defs, by one word each -/
section
variable {P : Program} {w : World} {K : PySem.W.Frag} {mg : Str → Option Value} {base : Heap}
structure Fn (P : Program) (w : World) (K : PySem.W.Frag) (mg : Str → Option Value) (base : Heap) (x : Str) (k : Nat) (sp : Sp) : Prop where
  ex : ∃ (f : Addr) (fd : FuncData) (ps : List Str), FnOk P w K mg base CX0 k f fd ps sp ∧ mg x = some (.ref f) ∧ PySem.W.keepIn K (.ref f) = true ∧ Binds K fd ps []
structure Me (P : Program) (w : World) (K : PySem.W.Frag) (mg : Str → Option Value) (base : Heap) (C : Addr) (m : Str) (k : Nat) (sp : Sp) : Prop where
  ex : ∃ (f : Addr) (fd : FuncData) (ps : List Str), FnOk P w K mg base CX0 k f fd ps sp ∧ Cls K C ∧ Meth K C m f ∧ Binds K fd ps []
structure Mke (P : Program) (w : World) (K : PySem.W.Frag) (mg : Str → Option Value) (base : Heap) (x : Str) (C : Addr) (k : Nat) (sp : Sp) : Prop where
  ex : ∃ (f : Addr) (fd : FuncData) (ps : List Str), FnOk P w K mg base CX0 k f fd ps sp ∧ Mk K C f ∧ mg x = some (.ref C) ∧ Binds K fd ps []
abbrev FnP (K : PySem.W.Frag) (x q : Str) (st : Stmt) (f : Addr) (fd : FuncData) : Prop := FunD K x q (defArgs st) (defBody st) (defScope st) [] [] f fd
end
section
variable {X : Cx} {x m : Str} {k : Nat} {sp : Sp} {e o : Expr} {es : List Expr} {t : TA} {to : TE} {C : Addr} {p apos pos : Pos}
theorem pe_fn (F : Fn X.prog X.w X.K X.mg X.base x k sp) (hr : Room k X.A) (hg : Gl X x) (ha : PA X (e :: es) t)
    (hdb : (x == ("__debug__" : Str)) = false := by decide) (he : starEach (e :: es) X.env = (false, eval e X.env) :: starEach es X.env := by rfl) (hpl : (backTo pos (starEach es X.env)).any (·.1) = false := by rfl) :
    PE X (.Call (.Name x p) (e :: es) [] pos) (tCall sp [] E0 t) := by
  obtain ⟨f, fd, ps, h1, h2, h3, h4⟩ := F.ex
  exact pe_call h1 hr hg h2 h3 h4 .nil pass0 ha hdb he hpl
theorem pe_fn0 (F : Fn X.prog X.w X.K X.mg X.base x k sp) (hr : Room k X.A) (hg : Gl X x) (hdb : (x == ("__debug__" : Str)) = false := by decide) :
    PE X (.Call (.Name x p) [] [] pos) (tCall sp [] E0 tNil) := by
  obtain ⟨f, fd, ps, h1, h2, h3, h4⟩ := F.ex
  exact pe_call0 h1 hr hg h2 h3 h4 .nil pass0 hdb
theorem pe_me {pl : Sem Bool} (F : Me X.prog X.w X.K X.mg X.base C m k sp) (hr : Room k X.A) (ho : PE X o to) (ha : PA X (e :: es) t)
    (hst : starEach (e :: es) X.env = (false, eval e X.env) :: starEach es X.env := by rfl) (hpl : (backTo pos (starEach es X.env)).any (·.1) = false := by rfl)
    (ht : eval (.Call (.Attribute o m apos) (e :: es) [] pos) X.env = (do
      let ov ← eval o X.env
      standAt apos.atName
      let (f, first) ← holding [ov] (getMethod ov m pl)
      callWith pos f first (backTo pos (starEach (e :: es) X.env)) (backToKw pos (keywordEach [] X.env))) := by rfl) :
    PE X (.Call (.Attribute o m apos) (e :: es) [] pos) (tMeth C m sp [] E0 to t) := by
  obtain ⟨f, fd, ps, h1, h2, h3, h4⟩ := F.ex
  exact pe_meth ho h2 h3 h1 hr h4 .nil pass0 ha hst hpl ht
theorem pe_me0 {pl : Sem Bool} (F : Me X.prog X.w X.K X.mg X.base C m k sp) (hr : Room k X.A) (ho : PE X o to)
    (ht : eval (.Call (.Attribute o m apos) [] [] pos) X.env = (do
      let ov ← eval o X.env
      standAt apos.atName
      let (f, first) ← holding [ov] (getMethod ov m pl)
      callWith pos f first (backTo pos (starEach [] X.env)) (backToKw pos (keywordEach [] X.env))) := by rfl) :
    PE X (.Call (.Attribute o m apos) [] [] pos) (tMeth C m sp [] E0 to tNil) := by
  obtain ⟨f, fd, ps, h1, h2, h3, h4⟩ := F.ex
  exact pe_meth0 ho h2 h3 h1 hr h4 .nil pass0 ht
theorem pe_mk (F : Mke X.prog X.w X.K X.mg X.base x C k sp) (hr : Room (k + 1) X.A) (hg : Gl X x) (ha : PA X (e :: es) t)
    (hdb : (x == ("__debug__" : Str)) = false := by decide) (he : starEach (e :: es) X.env = (false, eval e X.env) :: starEach es X.env := by rfl) (hpl : (backTo pos (starEach es X.env)).any (·.1) = false := by rfl) :
    PE X (.Call (.Name x p) (e :: es) [] pos) (tMake C sp [] E0 t) := by
  obtain ⟨f, fd, ps, h1, h2, h3, h4⟩ := F.ex
  exact pe_make h2 h1 hr hg h3 h4 .nil pass0 ha hdb he hpl
theorem pe_gi {i : Int} (h : ∃ t, X.mg x = some (.int i t)) (hg : Gl X x) (hd : (x == ("__debug__" : Str)) = false := by decide) : PE X (.Name x pos) (tC (.int i)) := by
  obtain ⟨t, h⟩ := h
  exact pe_glob hg h ⟨t, rfl⟩ hd
theorem pe_gc (h : X.mg x = some (.ref C)) (hg : Gl X x) (hd : (x == ("__debug__" : Str)) = false := by decide) : PE X (.Name x pos) (tC (.ref C)) := pe_glob hg h rfl hd
theorem pe_gt {n : String} (h : X.mg x = none) (hg : Gl X x) (hv : bootBuiltins x = some (.type n)) (hn : x ≠ "__name__" := by decide) (hd : (x == ("__debug__" : Str)) = false := by decide) : PE X (.Name x pos) (tC (.ty n)) := pe_bltn hg h hv rfl hn hd
/-- * of ints, by what the model itself asks -/
theorem op_mulO : OpR X (binaryOp .Mult) (rI IntMulOk fun i j => .int (i * j)) := opI fun _ _ _ _ _ _ _ hc q => PyProof.Rows.mul_int q hc
end

/-- readings of rules that the kit states without a name -/
def rLenQ (K : PySem.W.Frag) : List V → Hp → VK → Prop := fun xs H Q => ∃ p ys, xs = [.ref p] ∧ (SqL K H p ys ∨ SqT K H p ys) ∧ Q (.int ys.length) H
def rListO (K : PySem.W.Frag) : List V → Hp → VK → Prop := fun xs H Q => ∃ p ys, xs = [.ref p] ∧ (SqL K H p ys ∨ SqT K H p ys) ∧ ∀ l, H l = none → Q (.ref l) (upd H l (.lst ys))
def rTupO (K : PySem.W.Frag) : List V → Hp → VK → Prop := fun xs H Q => ∃ p ys, xs = [.ref p] ∧ ((SqL K H p ys ∧ ∀ l, H l = none → Q (.ref l) (upd H l (.tup ys))) ∨ (SqT K H p ys ∧ Q (.ref p) H))
/-! #### comprehensions -/
section
variable {J : It} {n : Nat} {G : Hp → Prop} {Y : Nat → Hp → V → Hp → Prop} {g : TG} {tt : TT} {te : TE} {vs : List Nat} {σ : St} {H1 : Hp} {D : Addr} {Qd : Hp → Prop}
/-- what a comprehension over a walk asks -/
abbrev LcAsks (J : It) (g : TG) (tt : TT) (te : TE) (vs : List Nat) (σ : St) (H1 : Hp) (D : Addr) (Qd : Hp → Prop) : Prop :=
  ∃ W : Nat → Nat → Hp → Prop, (∃ m, W 0 m (upd H1 D (.lst []))) ∧ ∀ i m H, W i m H →
      (J.stop i H ∧ Qd H) ∨ (J.go i H ∧ ∃ Nx : Hp → Prop, (∀ H', Nx H' → ∃ m', m' < m ∧ W (i + 1) m' H') ∧ ∀ x H', J.yld i H x H' → g x (wipe σ vs) H' fun σ2 H2 => wipe σ2 vs = wipe σ vs ∧ tt σ2 H2 fun b H3 =>
        if b = true then te σ2 H3 fun y H4 => ∃ acc, H4 D = some (.lst acc) ∧ acc.length < sizeLine ∧ Nx (upd H4 D (.lst (acc ++ [y]))) else Nx H3)
theorem off_one {H : Hp} {D : Addr} {o : HO} : off [D] (upd H D o) = off [D] H := by
  funext b
  by_cases q : b ∈ [D]
  · rw [off_in q, off_in q]
  · rw [off_out q, off_out q, upd_ne (fun z => q (by simp [z]))]
theorem same_put {H1 H : Hp} {D : Addr} {o : HO} (n : H1 D = none) (s : Same H1 H) : Same H1 (upd H D o) := fun b o e => by
  rw [upd_ne (ne_of_none e n)]
  exact s _ _ e
theorem yes_of {te : TE} {σ : St} {H : Hp} {k : VK} {kn : Hp → Prop} (h : te σ H k) : tYes σ H (fun b H3 => if b = true then te σ H3 k else kn H3) := by
  unfold tYes
  dsimp only
  rw [if_pos rfl]
  exact h
/-- no test: each element's value is told by R (monotone), whatever else is laid meanwhile -/
theorem lc_all (w : Walk J n G Y) (hGm : ∀ H H', Same H H' → G H → G H') (hG : G H1) (R : Nat → Hp → V → Prop) (hR : ∀ i H H' y, Same H H' → R i H y → R i H' y) (nD : H1 D = none) (hlen : n ≤ 1000)
    (hs : ∀ (i : Nat) x H H' acc, i < n → Same H1 H → H D = some (.lst acc) → Y i H x H' → ∀ k : V → Hp → Prop, (∀ y H2, Same H H2 → R i (off [D] H2) y → k y H2) →
      g x (wipe σ vs) H' fun σ2 H2 => wipe σ2 vs = wipe σ vs ∧ te σ2 H2 k)
    (hd : ∀ ys H, Same H1 H → H D = some (.lst ys) → ys.length = n → (∀ (i : Nat) y, ys[i]? = some y → R i (off [D] H) y) → Qd H)
    (hg : ∀ x σ H Q Q', (∀ σ2 H2, Q σ2 H2 → Q' σ2 H2) → g x σ H Q → g x σ H Q') : LcAsks J g tYes te vs σ H1 D Qd := by
  refine lc_it w (fun i H => Same H1 H ∧ ∃ ys, H D = some (.lst ys) ∧ ys.length = i ∧ ∀ (j : Nat) y, ys[j]? = some y → R j (off [D] H) y) ?_ ?_ ?_ ?_
  · exact ⟨Same.new nD, [], upd_same, rfl, fun j y e => by simp at e⟩
  · intro i H _ h
    exact hGm _ _ h.1 hG
  · rintro i x H H' hi ⟨s, ys, hD, hl, hy⟩ hY
    refine hg _ _ _ _ _ (fun σ2 H2 h => ?_) (hs i x H H' ys hi s hD hY (fun y H4 => ∃ acc, H4 D = some (.lst acc) ∧ acc.length < sizeLine ∧ (Same H1 (upd H4 D (.lst (acc ++ [y]))) ∧ ∃ ys, (upd H4 D (.lst (acc ++ [y]))) D = some (.lst ys) ∧ ys.length = i + 1 ∧ ∀ (j : Nat) y', ys[j]? = some y' → R j (off [D] (upd H4 D (.lst (acc ++ [y])))) y')) ?_)
    · refine ⟨h.1, ?_⟩
      unfold tYes
      dsimp only
      rw [if_pos rfl]
      exact h.2
    · intro y H4 s4 r
      refine ⟨ys, s4 _ _ hD, Nat.lt_of_le_of_lt (show ys.length ≤ 1000 by omega) (by decide), same_put nD (s.trans s4), ys ++ [y], upd_same, by simp [hl], fun j y' e => ?_⟩
      rw [off_one]
      by_cases hj : j < ys.length
      · rw [List.getElem?_append_left hj] at e
        exact hR j _ _ _ (off_mono s4) (hy j y' e)
      · have ej : j = ys.length := by
          have := (List.getElem?_eq_some_iff.mp e).1
          simp at this; omega
        subst ej
        rw [List.getElem?_append_right (Nat.le_refl _)] at e
        simp at e
        subst e
        rw [hl]
        exact r
  · rintro H ⟨s, ys, hD, hl, hy⟩
    exact hd ys H s hD hl hy
/-- element and test are plain functions of the turn -/
theorem lc_pure (w : Walk J n G Y) (hGm : ∀ H H', Same H H' → G H → G H') (hG : G H1) (f : Nat → Option V) (nD : H1 D = none) (hlen : n ≤ 1000)
    (hs : ∀ (i : Nat) x H H', i < n → Same H1 H → Y i H x H' → ∀ (k : V → Hp → Prop) (kn : Hp → Prop), (∀ y H2, f i = some y → Same H H2 → k y H2) → (∀ H2, f i = none → Same H H2 → kn H2) →
      g x (wipe σ vs) H' fun σ2 H2 => wipe σ2 vs = wipe σ vs ∧ tt σ2 H2 fun b H3 => if b = true then te σ2 H3 k else kn H3)
    (hd : ∀ H, Same H1 H → H D = some (.lst ((List.range n).filterMap f)) → Qd H) : LcAsks J g tt te vs σ H1 D Qd := by
  refine lc_it w (fun i H => Same H1 H ∧ H D = some (.lst ((List.range i).filterMap f))) ?_ ?_ ?_ ?_
  · exact ⟨Same.new nD, upd_same⟩
  · intro i H _ h
    exact hGm _ _ h.1 hG
  · rintro i x H H' hi ⟨s, hD⟩ hY
    have hl : ((List.range i).filterMap f).length ≤ i := by
      have := List.length_filterMap_le f (List.range i)
      rwa [List.length_range] at this
    refine hs i x H H' hi s hY _ _ (fun y H4 e s4 => ?_) (fun H4 e s4 => ?_)
    · refine ⟨_, s4 _ _ hD, Nat.lt_of_le_of_lt (show _ ≤ 1000 by omega) (by decide), same_put nD (s.trans s4), ?_⟩
      rw [upd_same, List.range_succ, List.filterMap_append]
      simp [e]
    · refine ⟨s.trans s4, ?_⟩
      rw [s4 _ _ hD, List.range_succ, List.filterMap_append]
      simp [e]
  · rintro H ⟨s, hD⟩
    exact hd H s hD
theorem sqL_mono {K : PySem.W.Frag} {a : Addr} {xs : List V} (H H' : Hp) (s : Same H H') (h : SqL K H a xs) : SqL K H' a xs := s.seq h
theorem sqL2_mono {K : PySem.W.Frag} {a b : Addr} {xs ys : List V} (H H' : Hp) (s : Same H H') (h : SqL K H a xs ∧ SqL K H b ys) : SqL K H' a xs ∧ SqL K H' b ys := ⟨s.seq h.1, s.seq h.2⟩
theorem range_filterMap {α β : Type} (f : α → Option β) : ∀ (xs : List α), (List.range xs.length).filterMap (fun i => xs[i]?.bind f) = xs.filterMap f
  | [] => rfl
  | x :: xs => by
    have ih := range_filterMap f xs
    rw [List.length_cons, List.range_succ_eq_map, List.filterMap_cons, List.filterMap_map, List.filterMap_cons]
    have e : ((fun i => ((x :: xs)[i]?).bind f) ∘ Nat.succ) = fun i => (xs[i]?).bind f := by funext i; simp
    rw [e, ih]
    simp
theorem range_map {α β : Type} (f : α → β) (xs : List α) : (List.range xs.length).filterMap (fun i => xs[i]?.map f) = xs.map f := by
  have e : (fun (i : Nat) => xs[i]?.map f) = fun (i : Nat) => xs[i]?.bind fun x => some (f x) := by funext i; cases xs[i]? <;> rfl
  rw [e, range_filterMap, ← List.filterMap_eq_map]
  rfl
/-- over a list, no test, a plain function of the item -/
theorem lc_map {K : PySem.W.Frag} {a : Addr} {xs : List V} (f : V → V) (hSq : SqL K H1 a xs) (nD : H1 D = none) (hlen : xs.length ≤ 1000)
    (hs : ∀ (i : Nat) x H, xs[i]? = some x → Same H1 H → ∀ k : V → Hp → Prop, (∀ H', Same H H' → k (f x) H') → g x (wipe σ vs) H fun σ2 H2 => wipe σ2 vs = wipe σ vs ∧ te σ2 H2 k)
    (hd : ∀ H, Same H1 H → H D = some (.lst (xs.map f)) → Qd H)
    (hg : ∀ x σ H Q Q', (∀ σ2 H2, Q σ2 H2 → Q' σ2 H2) → g x σ H Q → g x σ H Q') : LcAsks (Itl K a) g tYes te vs σ H1 D Qd := by
  refine lc_pure walk_list sqL_mono hSq (fun i => xs[i]?.map f) nD hlen (fun i x H H' hi s hY k kn hk _ => ?_) (fun H s hD => hd H s (by rw [← range_map]; exact hD))
  obtain ⟨rfl, hx⟩ := hY
  refine hg _ _ _ _ _ (fun σ2 H2 h => ?_) (hs i x H' hx s k fun H2 s2 => hk _ H2 (by rw [hx]; rfl) s2)
  refine ⟨h.1, ?_⟩
  unfold tYes
  dsimp only
  rw [if_pos rfl]
  exact h.2
theorem eq_map_of {α β : Type} {f : α → β} : ∀ {xs : List α} {ys : List β}, ys.length = xs.length → (∀ (i : Nat) y, ys[i]? = some y → ∃ x, xs[i]? = some x ∧ y = f x) → ys = xs.map f
  | [], [], _, _ => rfl
  | [], _ :: _, h, _ => by cases h
  | _ :: _, [], h, _ => by cases h
  | x :: xs, y :: ys, h, r => by
    obtain ⟨x', e, ey⟩ := r 0 y rfl
    cases e
    rw [ey, eq_map_of (xs := xs) (ys := ys) (by simpa using h) fun i y' e => r (i + 1) y' (by simpa using e)]
    rfl
theorem gtup_mono {K : PySem.W.Frag} {i j : Nat} (x : V) (σ : St) (H : Hp) (Q Q' : St → Hp → Prop) (h : ∀ σ2 H2, Q σ2 H2 → Q' σ2 H2) (q : gTup K 2 (gCons (gName i) (gCons (gName j) gNil)) x σ H Q) : gTup K 2 (gCons (gName i) (gCons (gName j) gNil)) x σ H Q' := by
  obtain ⟨a, xs, e, hs, hl, v, r, er, v2, r2, er2, en, q⟩ := q
  exact ⟨a, xs, e, hs, hl, v, r, er, v2, r2, er2, en, h _ _ q⟩
theorem gname_mono {i : Nat} (x : V) (σ : St) (H : Hp) (Q Q' : St → Hp → Prop) (h : ∀ σ2 H2, Q σ2 H2 → Q' σ2 H2) (q : gName i x σ H Q) : gName i x σ H Q' := h _ _ q
end

/-! #### what sort a value is -/
def isInt : V → Bool
  | .int _ => true
  | _ => false
abbrev Kd (K : PySem.W.Frag) (H : Hp) (v : V) (t : String) : Prop := TyX K H v (.type t)
theorem kd_int {K : PySem.W.Frag} {H : Hp} (i : Int) : Kd K H (.int i) "int" := .base (.int i)
theorem kd_list {K : PySem.W.Frag} {H : Hp} {a : Addr} {xs : List V} (h : SqL K H a xs) : Kd K H (.ref a) "list" := by
  rcases h with (h | ⟨o, h⟩) | ⟨o, its, n, hk, hc, _⟩
  · exact .base (.lst h)
  · exact .base (.frz h)
  · exact .kList hk hc
theorem kd_tup {K : PySem.W.Frag} {H : Hp} {a : Addr} {xs : List V} (h : SqT K H a xs) : Kd K H (.ref a) "tuple" := by
  rcases h with (h | ⟨o, h⟩) | ⟨o, its, n, hk, hc, _⟩
  · exact .base (.tup h)
  · exact .fTuple h
  · exact .kTuple hk hc
theorem kd_isInt {K : PySem.W.Frag} {H : Hp} {v : V} {t : String} (h : Kd K H v t) : isInt v = (t == "int") := by
  generalize e : Value.type t = u at h
  cases h with
  | base b =>
    cases b <;> first | (cases e; rfl) | cases e
  | _ => cases e; rfl
theorem isi_of {K : PySem.W.Frag} {H : Hp} {v : V} {t n : String} {b : Bool} {Q : VK} (h : Kd K H v t) (e : PySem.W.kitOne K (.type t) (.type n) = some b) (q : Q (.bl b) H) : rIsi K [v, .ty n] H Q :=
  ⟨v, .ty n, .type t, .type n, b, rfl, .ty n, h, e, q⟩
/-- isinstance(v, int), (v, bool), (v, list), (v, tuple), (v, str) of a value of a known sort -/
theorem kit_kd {K : PySem.W.Frag} {H : Hp} {v : V} {t : String} (h : Kd K H v t) :
    PySem.W.kitOne K (.type t) (.type "int") = some (t == "int" || t == "bool") ∧ PySem.W.kitOne K (.type t) (.type "bool") = some (t == "bool") ∧
    PySem.W.kitOne K (.type t) (.type "list") = some (t == "list") ∧ PySem.W.kitOne K (.type t) (.type "tuple") = some (t == "tuple") ∧ PySem.W.kitOne K (.type t) (.type "str") = some (t == "str") := by
  generalize e : Value.type t = u at h
  cases h with
  | base b =>
    cases b <;> first | (cases e; exact ⟨kit_ty (by decide +kernel), kit_ty (by decide +kernel), kit_ty (by decide +kernel), kit_ty (by decide +kernel), kit_ty (by decide +kernel)⟩) | cases e
  | _ => cases e; exact ⟨kit_ty (by decide +kernel), kit_ty (by decide +kernel), kit_ty (by decide +kernel), kit_ty (by decide +kernel), kit_ty (by decide +kernel)⟩

/-! #### further facts of the top -/
def exOk (ex : List (PySem.W.Frag → Bool)) (K : PySem.W.Frag) : Bool := ex.all fun f => f K
theorem exAll {ex : List (PySem.W.Frag → Bool)} {K : PySem.W.Frag} (i : Nat) {f : PySem.W.Frag → Bool} (c : exOk ex K = true) (h : ex[i]? = some f) : f K = true := List.all_eq_true.mp c f (List.mem_of_getElem? h)
def obsYG (n : Nat) (fa : List He.Fa) (fn : List He.DefD) (ex : List (PySem.W.Frag → Bool)) (g : Addr → Option Obj) : Bool × He.AlD := (exOk ex (He.frG g (He.asD g n)), He.obsD fa fn (He.frG g (He.asD g n)))
def hookY (n : Nat) (fa : List He.Fa) (fn : List He.DefD) (ex : List (PySem.W.Frag → Bool)) : PySem.W.Hook where
  α := Bool × He.AlD
  obs := fun s => obsYG n fa fn ex s.heap.get?
  val := fun _ => (true, He.valD fn)
  says := fun _ h => ∃ K : PySem.W.Frag, K.In h ∧ He.SaysD fa fn K ∧ exOk ex K = true
  of := fun _ _ e => ⟨_, He.frG_in, congrArg Prod.snd e, congrArg Prod.fst e⟩
  keeps := fun _ _ _ ⟨K, hK, c⟩ k => ⟨K, PySem.W.Frag.In.keeps hK k, c⟩
theorem obsYG_eq {n : Nat} {fa : List He.Fa} {fn : List He.DefD} {ex : List (PySem.W.Frag → Bool)} {g : Addr → Option Obj} {s : Shared} (h : ∀ a, g a = s.heap.get? a) : obsYG n fa fn ex g = (hookY n fa fn ex).obs s := by
  have e : g = s.heap.get? := funext h
  rw [e]; rfl
/-- a class without an __init__ of its own -/
structure MkB (K : PySem.W.Frag) (C : Addr) : Prop where
  makes : PySem.W.makesIn K C = true
  init : PySem.W.findIn K (.ref C) "__init__" = some (some (.builtin "object.__init__"))
  kp : PySem.W.keepIn K (.ref C) = true
  top : PySem.W.mroIn K C (.type "object") = some true
def mkB (K : PySem.W.Frag) (C : Addr) : Bool := PySem.W.makesIn K C && (He.eqO (PySem.W.findIn K (.ref C) "__init__") (some (some (.builtin "object.__init__"))) && (PySem.W.keepIn K (.ref C) && decide (PySem.W.mroIn K C (.type "object") = some true)))
theorem mkB_ok {K : PySem.W.Frag} {C : Addr} (h : mkB K C = true) : MkB K C := by
  obtain ⟨h1, h⟩ := He.ba h
  obtain ⟨h2, h⟩ := He.ba h
  obtain ⟨h3, h4⟩ := He.ba h
  exact ⟨h1, He.eqO_ok h2, h3, of_decide_eq_true h4⟩
/-- what isinstance asks of an own class -/
structure IsC (K : PySem.W.Frag) (C : Addr) : Prop where
  cls : PySem.W.findIn K (.ref C) "__class__" = some (some (.builtin "object.__class__"))
  spe : PySem.W.specialIn K (.builtin "object.__class__") "__get__" = some (some (.builtin "getset_descriptor.__get__"))
  tak : PySem.W.takesIn K (.builtin "object.__class__") = some true
  mro : PySem.W.mroIn K C (.type "object") = some true
def isCB (K : PySem.W.Frag) (C : Addr) : Bool := He.eqO (PySem.W.findIn K (.ref C) "__class__") (some (some (.builtin "object.__class__"))) && (He.eqO (PySem.W.specialIn K (.builtin "object.__class__") "__get__") (some (some (.builtin "getset_descriptor.__get__"))) &&
  (decide (PySem.W.takesIn K (.builtin "object.__class__") = some true) && decide (PySem.W.mroIn K C (.type "object") = some true)))
theorem isCB_ok {K : PySem.W.Frag} {C : Addr} (h : isCB K C = true) : IsC K C := by
  obtain ⟨h1, h⟩ := He.ba h
  obtain ⟨h2, h⟩ := He.ba h
  obtain ⟨h3, h4⟩ := He.ba h
  exact ⟨He.eqO_ok h1, He.eqO_ok h2, of_decide_eq_true h3, of_decide_eq_true h4⟩
/-- C(), no __init__: a new instance without attributes -/
def tMkO (C : Addr) : TE := fun _ H Q => ∀ x dx, H x = none → H dx = none → dx ≠ x → Q (.ref x) (upd (upd H dx (.own x)) x (.ins C dx []))
theorem pe_mkO {X : Cx} {x : Str} {C : Addr} {p pos : Pos} (M : MkB X.K C) (hg : Gl X x) (hm : X.mg x = some (.ref C)) (hdb : (x == ("__debug__" : Str)) = false := by decide) : PE X (.Call (.Name x p) [] [] pos) (tMkO C) := by
  refine ⟨fun pins s σ H Q I h => ?_⟩
  refine wpAny_Call_Name_kw (ld_glob I hg hm ?_ hdb)
  refine PySem.W.callWith_K0 I.kIn M.kp ?_
  have hq := h (s.heap.objs.size + 1) s.heap.objs.size (I.hok.fresh (Nat.le_succ _)) (I.hok.fresh (Nat.le_refl _)) (Nat.ne_of_lt (Nat.lt_succ_self _))
  have I2 := Inv.made (C := C) I
  refine wpAny_call (make_map0 I.kIn M.makes M.init (fun self => PySem.W.Looks.of_pure (PySem.W.oi_bind self)) ?_)
  have hL : PySem.W.Looks (model X.prog X.w) ((s.heap.push PySem.W.emptyDict).push (PySem.W.instObj C s.heap.objs.size)) (isInstance (.ref (s.heap.objs.size + 1)) (.type "object")) true := by
    have e2 : ((s.heap.push PySem.W.emptyDict).push (PySem.W.instObj C s.heap.objs.size)).get? (s.heap.objs.size + 1) = some (PySem.W.instObj C s.heap.objs.size) := by
      have := Heap.get?_push_size (s.heap.push PySem.W.emptyDict) (o := PySem.W.instObj C s.heap.objs.size) rfl
      rwa [Heap.size_push] at this
    have t1 : PySem.W.Looks (model X.prog X.w) ((s.heap.push PySem.W.emptyDict).push (PySem.W.instObj C s.heap.objs.size)) (typeOf (.ref (s.heap.objs.size + 1))) (.ref C) := (PySem.W.Looks.ld e2).andThen .now
    exact t1.andThen (PySem.W.looks_mroIn I2.kIn M.top)
  refine codeAny_call_builtin PySem.W.oi_plain PySem.W.entry_oi (@PySem.W.check_slot (model X.prog X.w) _ _ _ "object.__init__" "object" "__init__" _ [] [] _ PySem.W.oi_kind PySem.W.oi_split hL (PySem.W.oi_args _) ?_)
  rw [PySem.W.oi_run]
  exact wpAny_pure (And.intro rfl ⟨V.ref (s.heap.objs.size + 1), _, I2, rfl, hq⟩)
end Song

/-! ### Pl1: plain lists: greatest ones, songs in turn (no program in sight) -/
namespace Song
def maxL : List Int → Int
  | [] => 0
  | n :: r => r.foldl max n
theorem foldl_max_le : ∀ (r : List Int) (n m : Int), n ≤ m → (∀ y ∈ r, y ≤ m) → r.foldl max n ≤ m
  | [], _, _, h, _ => h
  | y :: r, n, m, h, hr => foldl_max_le r (max n y) m (by have := hr y (by simp); omega) fun z hz => hr z (by simp [hz])
theorem le_foldl_max : ∀ (r : List Int) (n : Int), n ≤ r.foldl max n ∧ ∀ y ∈ r, y ≤ r.foldl max n
  | [], n => ⟨Int.le_refl _, fun y h => by cases h⟩
  | y :: r, n => by
    obtain ⟨h1, h2⟩ := le_foldl_max r (max n y)
    have e : (y :: r).foldl max n = r.foldl max (max n y) := rfl
    rw [e]
    refine ⟨by omega, fun z hz => ?_⟩
    rcases List.mem_cons.mp hz with q | q
    · omega
    · exact h2 z q
theorem foldl_max_mem : ∀ (r : List Int) (n : Int), r.foldl max n ∈ n :: r
  | [], n => by simp
  | y :: r, n => by
    have h := foldl_max_mem r (max n y)
    have e : (y :: r).foldl max n = r.foldl max (max n y) := rfl
    rw [e]
    rcases List.mem_cons.mp h with q | q
    · rw [q]
      by_cases c : n ≤ y
      · rw [Int.max_eq_right c]; simp
      · rw [Int.max_eq_left (by omega)]; simp
    · simp [q]
theorem maxL_ge {ns : List Int} {y : Int} (h : y ∈ ns) : y ≤ maxL ns := by
  cases ns with
  | nil => cases h
  | cons n r =>
    obtain ⟨h1, h2⟩ := le_foldl_max r n
    rcases List.mem_cons.mp h with q | q
    · rw [q]; exact h1
    · exact h2 y q
theorem maxL_mem {ns : List Int} (h : ns ≠ []) : maxL ns ∈ ns := by
  cases ns with
  | nil => exact absurd rfl h
  | cons n r => exact foldl_max_mem r n
theorem maxL_eq {ns : List Int} {m : Int} (h : m ∈ ns) (hm : ∀ y ∈ ns, y ≤ m) : m = maxL ns := by
  have h1 := maxL_ge h
  have h2 := hm _ (maxL_mem (fun e => by rw [e] at h; cases h))
  omega
/-- the least round that a singer's next song can have -/
def floorOf (last : List Int) (going s : Int) : Int := max going (last.getD s.toNat 0 + 1)
def roundFor (last : List Int) (going : Int) (ss : List Int) : Int := maxL (ss.map (floorOf last going))
/-- the law's own way to say it -/
theorem roundFor_law {last : List Int} {going : Int} {ss : List Int} (h : ss ≠ []) : maxL (going :: ss.map fun s => last.getD s.toNat 0 + 1) = roundFor last going ss := by
  have h1 : ∀ s ∈ ss, floorOf last going s ≤ roundFor last going ss := fun s hs => maxL_ge (List.mem_map.mpr ⟨s, hs, rfl⟩)
  have h2 : going ≤ maxL (going :: ss.map fun s => last.getD s.toNat 0 + 1) := maxL_ge (by simp)
  have h3 : ∀ s ∈ ss, last.getD s.toNat 0 + 1 ≤ maxL (going :: ss.map fun s => last.getD s.toNat 0 + 1) := fun s hs => maxL_ge (List.mem_cons_of_mem _ (List.mem_map.mpr ⟨s, hs, rfl⟩))
  have h4 := maxL_mem (ns := going :: ss.map fun s => last.getD s.toNat 0 + 1) (by simp)
  have h5 : roundFor last going ss ∈ ss.map (floorOf last going) := maxL_mem (by simpa using h)
  obtain ⟨s, hs, e⟩ := List.mem_map.mp h5
  obtain ⟨s0, hs0⟩ : ∃ s0, s0 ∈ ss := by
    cases ss with
    | nil => exact absurd rfl h
    | cons a r => exact ⟨a, by simp⟩
  have f0 := h1 s0 hs0
  have f1 := h3 s hs
  unfold floorOf at e f0
  rcases List.mem_cons.mp h4 with q | q
  · omega
  · obtain ⟨s1, hs1, e1⟩ := List.mem_map.mp q
    have f2 := h1 s1 hs1
    unfold floorOf at f2
    omega
/-! #### pairs in order -/
def ltPr (a b : Int × Int) : Bool := decide (a.1 < b.1) || (decide (a.1 = b.1) && decide (a.2 < b.2))
theorem ltPr_iff {a b : Int × Int} : ltPr a b = true ↔ a.1 < b.1 ∨ (a.1 = b.1 ∧ a.2 < b.2) := by
  unfold ltPr
  simp
theorem ltPr_false {a b : Int × Int} : ltPr a b = false ↔ ¬ (a.1 < b.1 ∨ (a.1 = b.1 ∧ a.2 < b.2)) := by
  rw [← ltPr_iff]; simp
theorem ltPr_anti {a b : Int × Int} (h1 : ltPr a b = false) (h2 : ltPr b a = false) : a = b := by
  rw [ltPr_false] at h1 h2
  obtain ⟨a1, a2⟩ := a
  obtain ⟨b1, b2⟩ := b
  simp only at h1 h2
  have e1 : a1 = b1 := by omega
  have e2 : a2 = b2 := by omega
  rw [e1, e2]
def SortedP (l : List (Int × Int)) : Prop := l.Pairwise fun x y => ltPr y x = false
theorem sortedP_unique : ∀ {l m : List (Int × Int)}, l.Perm m → SortedP l → SortedP m → l = m
  | [], m, p, _, _ => (List.nil_perm.mp p).symm ▸ rfl
  | x :: l, [], p, _, _ => absurd p.length_eq (by simp)
  | x :: l, y :: m, p, h1, h2 => by
    obtain ⟨a1, a2⟩ := List.pairwise_cons.mp h1
    obtain ⟨b1, b2⟩ := List.pairwise_cons.mp h2
    have e : x = y := by
      have hx : x ∈ y :: m := p.subset (by simp)
      have hy : y ∈ x :: l := p.symm.subset (by simp)
      rcases List.mem_cons.mp hx with q | q
      · exact q
      rcases List.mem_cons.mp hy with q' | q'
      · exact q'.symm
      exact ltPr_anti (b1 x q) (a1 y q')
    subst e
    rw [sortedP_unique (List.perm_cons x |>.mp p) a2 b2]
def insP (x : Int × Int) : List (Int × Int) → List (Int × Int)
  | [] => [x]
  | y :: r => if ltPr y x then y :: insP x r else x :: y :: r
def sortP : List (Int × Int) → List (Int × Int)
  | [] => []
  | x :: r => insP x (sortP r)
theorem insP_perm (x : Int × Int) : ∀ l, (insP x l).Perm (x :: l)
  | [] => List.Perm.refl _
  | y :: r => by
    unfold insP
    split
    · exact ((insP_perm x r).cons y).trans (List.Perm.swap x y r)
    · exact List.Perm.refl _
theorem sortP_perm : ∀ l, (sortP l).Perm l
  | [] => List.Perm.refl _
  | x :: r => (insP_perm x (sortP r)).trans ((sortP_perm r).cons x)
theorem insP_sorted (x : Int × Int) : ∀ l, SortedP l → SortedP (insP x l)
  | [], _ => by
    unfold insP SortedP
    exact List.pairwise_singleton _ _
  | y :: r, h => by
    obtain ⟨a1, a2⟩ := List.pairwise_cons.mp h
    unfold insP
    split
    · rename_i c
      refine List.pairwise_cons.mpr ⟨fun z hz => ?_, insP_sorted x r a2⟩
      rcases List.mem_cons.mp ((insP_perm x r).subset hz) with q | q
      · rw [q, ltPr_false]
        rw [ltPr_iff] at c
        omega
      · exact a1 z q
    · rename_i c
      have c : ltPr y x = false := by simpa using c
      refine List.pairwise_cons.mpr ⟨fun z hz => ?_, h⟩
      rcases List.mem_cons.mp hz with q | q
      · rw [q]; exact c
      · have := a1 z q
        rw [ltPr_false] at this c ⊢
        omega
theorem sortP_sorted : ∀ l, SortedP (sortP l)
  | [] => List.Pairwise.nil
  | x :: r => insP_sorted x _ (sortP_sorted r)
theorem sortP_eq {l m : List (Int × Int)} (p : l.Perm m) (h : SortedP l) : l = sortP m := sortedP_unique (p.trans (sortP_perm m).symm) h (sortP_sorted m)
/-- the songs that wait, in turn -/
def inTurn (rounds waits : List Int) : List Int := (sortP (waits.map fun s => (rounds.getD s.toNat 0, s))).map (·.2)
theorem inTurn_perm (rounds waits : List Int) : (inTurn rounds waits).Perm waits := by
  unfold inTurn
  have h := (sortP_perm (waits.map fun s => (rounds.getD s.toNat 0, s))).map (·.2)
  rw [List.map_map] at h
  have e : waits.map ((fun x : Int × Int => x.2) ∘ fun s => (rounds.getD s.toNat 0, s)) = waits := by
    rw [show ((fun x : Int × Int => x.2) ∘ fun s => (rounds.getD s.toNat 0, s)) = id from rfl, List.map_id]
  rw [e] at h
  exact h
end Song

/-! ### Exn: defs that raise, own error classes, tables of lambdas (own layer) -/
namespace Song
open PySem L2
/-! #### contracts that tell what is raised -/
structure FnX (P : Program) (w : World) (K : PySem.W.Frag) (mg : Str → Option Value) (base : Heap) (x : Str) (k : Nat) (sp : Sp) : Prop where
  ex : ∃ (f : Addr) (fd : FuncData) (ps : List Str), FnOk P w K mg base (L2.CX P w) k f fd ps sp ∧ mg x = some (.ref f) ∧ PySem.W.keepIn K (.ref f) = true ∧ Binds K fd ps []
structure MeX (P : Program) (w : World) (K : PySem.W.Frag) (mg : Str → Option Value) (base : Heap) (C : Addr) (m : Str) (k : Nat) (sp : Sp) : Prop where
  ex : ∃ (f : Addr) (fd : FuncData) (ps : List Str), FnOk P w K mg base (L2.CX P w) k f fd ps sp ∧ Cls K C ∧ Meth K C m f ∧ Binds K fd ps []
structure MkeX (P : Program) (w : World) (K : PySem.W.Frag) (mg : Str → Option Value) (base : Heap) (x : Str) (C : Addr) (k : Nat) (sp : Sp) : Prop where
  ex : ∃ (f : Addr) (fd : FuncData) (ps : List Str), FnOk P w K mg base (L2.CX P w) k f fd ps sp ∧ Mk K C f ∧ mg x = some (.ref C) ∧ Binds K fd ps []
/-- what may leave, whatever the slots are -/
abbrev TkE (X : Cx) (E : XK) : Prop := Takes X (fun cls d _ H => E cls d H)
section
variable {X : Cx} {x m : Str} {k : Nat} {sp : Sp} {e o : Expr} {es : List Expr} {t : TA} {to : TE} {C : Addr} {p apos pos : Pos} {E : XK}
theorem pe_fnx (F : FnX X.prog X.w X.K X.mg X.base x k sp) (hr : Room k X.A) (hg : Gl X x) (tk : TkE X E) (ha : PA X (e :: es) t)
    (hdb : (x == ("__debug__" : Str)) = false := by decide) (he : starEach (e :: es) X.env = (false, eval e X.env) :: starEach es X.env := by rfl) (hpl : (backTo pos (starEach es X.env)).any (·.1) = false := by rfl) :
    PE X (.Call (.Name x p) (e :: es) [] pos) (tCall sp [] E t) := by
  obtain ⟨f, fd, ps, h1, h2, h3, h4⟩ := F.ex
  exact pe_call h1 hr hg h2 h3 h4 .nil (passes_call tk fun _ _ _ _ h => h) ha hdb he hpl
theorem pe_mex {pl : Sem Bool} (F : MeX X.prog X.w X.K X.mg X.base C m k sp) (hr : Room k X.A) (tk : TkE X E) (ho : PE X o to) (ha : PA X (e :: es) t)
    (hst : starEach (e :: es) X.env = (false, eval e X.env) :: starEach es X.env := by rfl) (hpl : (backTo pos (starEach es X.env)).any (·.1) = false := by rfl)
    (ht : eval (.Call (.Attribute o m apos) (e :: es) [] pos) X.env = (do
      let ov ← eval o X.env
      standAt apos.atName
      let (f, first) ← holding [ov] (getMethod ov m pl)
      callWith pos f first (backTo pos (starEach (e :: es) X.env)) (backToKw pos (keywordEach [] X.env))) := by rfl) :
    PE X (.Call (.Attribute o m apos) (e :: es) [] pos) (tMeth C m sp [] E to t) := by
  obtain ⟨f, fd, ps, h1, h2, h3, h4⟩ := F.ex
  exact pe_meth ho h2 h3 h1 hr h4 .nil (passes_call tk fun _ _ _ _ h => h) ha hst hpl ht
theorem pe_mkx (F : MkeX X.prog X.w X.K X.mg X.base x C k sp) (hr : Room (k + 1) X.A) (hg : Gl X x) (tk : TkE X E) (ha : PA X (e :: es) t)
    (hdb : (x == ("__debug__" : Str)) = false := by decide) (he : starEach (e :: es) X.env = (false, eval e X.env) :: starEach es X.env := by rfl) (hpl : (backTo pos (starEach es X.env)).any (·.1) = false := by rfl) :
    PE X (.Call (.Name x p) (e :: es) [] pos) (tMake C sp [] E t) := by
  obtain ⟨f, fd, ps, h1, h2, h3, h4⟩ := F.ex
  exact pe_make h2 h1 hr hg h3 h4 .nil (passes_call tk fun _ _ _ _ h => h) ha hdb he hpl
end
/-! #### calls whose readings are kept closed -/
@[irreducible] def iMake (C : Addr) (sp : Sp) (t : TA) : TE := tMake C sp [] E0 t
@[irreducible] def iMeth (C : Addr) (m : Str) (sp : Sp) (to : TE) (t : TA) : TE := tMeth C m sp [] E0 to t
@[irreducible] def iCall (sp : Sp) (t : TA) : TE := tCall sp [] E0 t
theorem iMake_of {C : Addr} {sp : Sp} {t : TA} {σ : L2.St} {H : Hp} {Q : VK} (h : tMake C sp [] E0 t σ H Q) : iMake C sp t σ H Q := by unfold iMake; exact h
theorem iMeth_of {C : Addr} {m : Str} {sp : Sp} {to : TE} {t : TA} {σ : L2.St} {H : Hp} {Q : VK} (h : tMeth C m sp [] E0 to t σ H Q) : iMeth C m sp to t σ H Q := by unfold iMeth; exact h
theorem iCall_of {sp : Sp} {t : TA} {σ : L2.St} {H : Hp} {Q : VK} (h : tCall sp [] E0 t σ H Q) : iCall sp t σ H Q := by unfold iCall; exact h
section
variable {X : Cx} {e : Expr} {C : Addr} {m : Str} {sp : Sp} {to : TE} {t : TA}
theorem pe_iMk (h : PE X e (tMake C sp [] E0 t)) : PE X e (iMake C sp t) := by unfold iMake; exact h
theorem pe_iMe (h : PE X e (tMeth C m sp [] E0 to t)) : PE X e (iMeth C m sp to t) := by unfold iMeth; exact h
theorem pe_iFn (h : PE X e (tCall sp [] E0 t)) : PE X e (iCall sp t) := by unfold iCall; exact h
end
/-! #### own error classes -/
structure ExK (K : PySem.W.Frag) (mg : Str → Option Value) (x : Str) : Prop where
  g : mg x = some (.ref (He.ga K x))
  i : PySem.W.excIn K (He.ga K x) He.veBase "ValueError.__new__" = true
  k : PySem.W.keepIn K (.ref (He.ga K x)) = true
  s : PySem.W.subIn K (.ref (He.ga K x)) (.type "BaseException") = some true
  t : PySem.W.typeIn K (.ref (He.ga K x)) = some (.type "type")
theorem exk_of {K : PySem.W.Frag} {mg : Str → Option Value} {x : Str} (g : mg x = some (.ref (He.ga K x))) (c : PySem.W.excIn K (He.ga K x) He.veBase "ValueError.__new__" = true ∧ PySem.W.keepIn K (.ref (He.ga K x)) = true ∧ PySem.W.subIn K (.ref (He.ga K x)) (.type "BaseException") = some true ∧
    PySem.W.typeIn K (.ref (He.ga K x)) = some (.type "type")) : ExK K mg x := ⟨g, c.1, c.2.1, c.2.2.1, c.2.2.2⟩
/-- raise x('m') -/
theorem ps_rz {X : Cx} {E : XK} {x m : Str} {j : Nat} {p p2 pos pos' : Pos} (hc : X.calm = true) (tk : TkE X E) (c : ExK X.K X.mg x) (hg : Gl X x) (hdb : (x == ("__debug__" : Str)) = false := by decide) :
    PS X (.Raise (some (.Call (.Name x p) [.Constant (.str m) j p2] [] pos)) none pos') (fun _ _ H => E (.ref (He.ga X.K x)) none H) :=
  ps_raise hc tk (pmk_own PySem.F.excBase_ValueError c.i c.g c.k (raises_own c.s c.t) hg hdb)
/-- the names of the eight -/
def cn (i : Nat) : Str := (["BadMany", "BadSingers", "BadSong", "BadTale", "BadSongs", "BadGap", "BadOrder", "TooMany"] : List Str).getD i ""
structure KM (K : PySem.W.Frag) (i : Nat) : Prop where
  c : ExcC K (He.ga K (cn i))
  j : ∀ j, j < 8 → PySem.W.kitOne K (.ref (He.ga K (cn i))) (.ref (He.ga K (cn j))) = some (i == j)
  v : PySem.W.kitOne K (.ref (He.ga K (cn i))) (.type "ValueError") = some true
  m : PySem.W.exmOne K (.ref (He.ga K (cn i))) (.ref (He.ga K "TurnError")) = some true
def kmB1 (K : PySem.W.Frag) (D : Addr) (i : Nat) : Bool :=
  He.eqO (PySem.W.findIn K (.ref D) "__getattribute__") (some (some (.builtin "BaseException.__getattribute__"))) && (He.eqO (PySem.W.findIn K (.ref D) "__getattr__") (some none) && (decide (PySem.W.subIn K (.ref D) (.type "BaseException") = some true) && (PySem.W.hasDictIn K D &&
  (He.eqO (PySem.W.findIn K (.ref D) "__class__") (some (some (.builtin "object.__class__"))) && (He.eqO (PySem.W.specialIn K (.builtin "object.__class__") "__get__") (some (some (.builtin "getset_descriptor.__get__"))) &&
  (decide (PySem.W.takesIn K (.builtin "object.__class__") = some true) && (decide (PySem.W.mroIn K D (.type "object") = some true) &&
  ((List.range 8).all (fun j => decide (PySem.W.kitOne K (.ref D) (.ref (He.ga K (cn j))) = some (i == j))) &&
  (decide (PySem.W.kitOne K (.ref D) (.type "ValueError") = some true) && decide (PySem.W.exmOne K (.ref D) (.ref (He.ga K "TurnError")) = some true))))))))))
def kmB (K : PySem.W.Frag) : Bool := (List.range 8).all fun i => kmB1 K (He.ga K (cn i)) i
theorem km_ok {K : PySem.W.Frag} (h : kmB K = true) : ∀ i, i < 8 → KM K i := fun i hi => by
  have h := List.all_eq_true.mp h i (List.mem_range.mpr hi)
  obtain ⟨h1, h⟩ := He.ba h
  obtain ⟨h2, h⟩ := He.ba h
  obtain ⟨h3, h⟩ := He.ba h
  obtain ⟨h4, h⟩ := He.ba h
  obtain ⟨h5, h⟩ := He.ba h
  obtain ⟨h6, h⟩ := He.ba h
  obtain ⟨h7, h⟩ := He.ba h
  obtain ⟨h8, h⟩ := He.ba h
  obtain ⟨h9, h⟩ := He.ba h
  obtain ⟨h10, h11⟩ := He.ba h
  exact ⟨⟨He.eqO_ok h1, He.eqO_ok h2, of_decide_eq_true h3, h4, He.eqO_ok h5, He.eqO_ok h6, of_decide_eq_true h7, of_decide_eq_true h8⟩,
    fun j hj => of_decide_eq_true (List.all_eq_true.mp h9 j (List.mem_range.mpr hj)), of_decide_eq_true h10, of_decide_eq_true h11⟩
/-! #### defs that make lambdas -/
/-- as FunD.ok, the code object told -/
theorem okC {P : Program} {w : World} {K : PySem.W.Frag} {mg : Str → Option Value} {base : Heap} {x qual : Str} {params : Arguments} {body : List Stmt} {scope : Scope} {dvs : List V} {kws : List (Str × V)} {f : Addr} {fd : FuncData} {CX : CXT} {N ps : List Str} {k : Nat} {sp : Sp} {at_ : He.Defn}
    (F : FunD K x qual params body scope dvs kws f fd) (ef : f = He.fAd K at_) (S : FnScope N ps scope) (len : ∀ vs H Q E, sp vs H Q E → vs.length = ps.length)
    (hbody : ∀ (cdv : Value) (_ : cdv = .ref (He.cT K at_).1) (A : Around) (outer : List Env) (s : Shared) (H : Hp) (vs : List V) (Q : VK) (E : XK), Room k (A.deeper (PyProof.Rows.envOfC qual scope s.heap.objs.size f cdv)) → sp vs H Q E →
      ∃ t, PSs (cxOf CX P w K mg base N qual scope f cdv A outer s H E) body t ∧ t { nx := fun _ H' => Q .non H', rt := Q } (L2.start N vs) H) : FnOk P w K mg base CX (k + 1) f fd ps sp := by
  obtain ⟨oc, od, dV, kV, doc, pm, an, cdv, ct, osl, rfl, lk, hcd, _, _⟩ := F.ex
  obtain ⟨c, ec⟩ := He.codeIn_ref hcd
  have e1 : (He.cT K at_).1 = c := He.codeOf_eq (by rw [← ef]; exact lk) ec
  exact fn_of lk hcd S len fun A outer s H vs Q E hr hsp => hbody cdv (by rw [ec, e1]) A outer s H vs Q E hr hsp
/-- a table's name of a def -/
abbrev qOf (d : Str) : Str := d ++ ".<locals>." ++ "<lambda>"
abbrev TLof (K : PySem.W.Frag) (tf : List He.Defn) : List (Addr × Str) := tf.map fun p => ((He.cT K p).2, qOf p.1)
structure LamT (K : PySem.W.Frag) (mg : Str → Option Value) (base : Heap) (Tl : List (Addr × Str)) (d : Str) : Prop where
  tb : LamX.TabB base mg (He.cT K (d, none)).1 (He.cT K (d, none)).2
  mem : ((He.cT K (d, none)).2, qOf d) ∈ Tl
  uq : ∀ p ∈ Tl, p.1 = (He.cT K (d, none)).2 → p.2 = qOf d
theorem nodup_inj {α β : Type} {f : α → β} : ∀ {l : List α}, (l.map f).Nodup → ∀ {a b : α}, a ∈ l → b ∈ l → f a = f b → a = b
  | [], _, _, _, h, _, _ => by cases h
  | c :: r, nd, a, b, ha, hb, e => by
    rw [List.map_cons, List.nodup_cons] at nd
    rcases List.mem_cons.mp ha with e1 | h1
    · rcases List.mem_cons.mp hb with e2 | h2
      · rw [e1, e2]
      · exact absurd (by rw [← e1, e]; exact List.mem_map_of_mem h2) nd.1
    · rcases List.mem_cons.mp hb with e2 | h2
      · exact absurd (by rw [← e2, ← e]; exact List.mem_map_of_mem h1) nd.1
      · exact nodup_inj nd.2 h1 h2 e
theorem lamT_of {K : PySem.W.Frag} {mg : Str → Option Value} {base : Heap} {tf : List He.Defn} {d : Str} (B : ∀ p ∈ tf, LamX.TabB base mg (He.cT K p).1 (He.cT K p).2) (nd : (tf.map fun p => (He.cT K p).2).Nodup) (h : (d, none) ∈ tf) : LamT K mg base (TLof K tf) d :=
  ⟨B _ h, List.mem_map.mpr ⟨_, h, rfl⟩, fun p hp e => by
    obtain ⟨q, hq, rfl⟩ := List.mem_map.mp hp
    have := nodup_inj (f := fun p => (He.cT K p).2) nd hq h e
    rw [this]⟩
/-- a def's body: what leaves it -/
theorem tkF {P : Program} {w : World} {K : PySem.W.Frag} {mg : Str → Option Value} {base : Heap} {N : List Str} {qual : Str} {scope : Scope} {f : Addr} {cdv : Value} {A : Around} {outer : List Env} {s : Shared} {H : Hp} {E : XK} : TkE (cxOf (L2.CX P w) P w K mg base N qual scope f cdv A outer s H E) E :=
  takes_of (X := cxOf (L2.CX P w) P w K mg base N qual scope f cdv A outer s H E) (E := E) rfl rfl rfl rfl
/-- a lambda's body: what leaves it -/
theorem tkLam {X : Cx} {A : Around} {outer : List Env} {s : Shared} {H : Hp} {E : XK} {scope : Scope} {f c' : Addr} : TkE (LamX.lamCx X A outer s H E scope f c') E := takes_of (X := LamX.lamCx X A outer s H E scope f c') (E := E) rfl rfl rfl rfl
/-- the slots are as many as the names -/
theorem takes_len {X : Cx} {W : WX} (tk : Takes X W) : Takes X (fun cls d σ H => σ.length = X.N.length → W cls d σ H) := fun u s' x => by
  obtain ⟨a, B, sI, pins, σ, H, cls, d, h1, I, h2, h3, h4, h5, h6, h7, w⟩ := x
  exact tk u s' ⟨a, B, sI, pins, σ, H, cls, d, h1, I, h2, h3, h4, h5, h6, h7, w I.len⟩
/-- all but tables -/
def nt (H : Hp) : Hp := fun b => match H b with
  | some (.tbl _) => none
  | x => x
theorem nt_some {H : Hp} {b : Addr} {o : HO} (h : nt H b = some o) : H b = some o ∧ ∀ ps, o ≠ .tbl ps := by
  unfold nt at h
  split at h
  · cases h
  · rename_i z
    exact ⟨h, fun ps e => z ps (by rw [h, e])⟩
theorem nt_of {H : Hp} {b : Addr} {o : HO} (h : H b = some o) (n : ∀ ps, o ≠ .tbl ps) : nt H b = some o := by
  unfold nt
  split
  · rename_i z
    rw [h] at z
    exact absurd (Option.some.inj z) (n _)
  · exact h
theorem nt_le (H : Hp) : Same (nt H) H := fun _ _ h => (nt_some h).1
theorem nt_ext {H H' : Hp} (e : LamX.ExtN H H') : Same (nt H) (nt H') := fun b o h => by
  obtain ⟨h, n⟩ := nt_some h
  exact nt_of (e b o h n) n
theorem ext_of_nt {H H' : Hp} (e : Same (nt H) (nt H')) : LamX.ExtN H H' := fun b o h n => (nt_some (e b o (nt_of h n))).1
theorem nt_same {H H' : Hp} (e : Same H H') : Same (nt H) (nt H') := nt_ext (LamX.ExtN.of e)
theorem nt_fra {S : List Addr} {H H' : Hp} (f : Fra S H H') : Fra S (nt H) (nt H') := fun a o q h => by
  obtain ⟨h, n⟩ := nt_some h
  exact nt_of (f a o q h) n
theorem nt_none {H : Hp} {b : Addr} (h : H b = none) : nt H b = none := by
  unfold nt
  rw [h]
theorem tabs_same {T : List (Addr × Str)} {H H' : Hp} (t : LamX.Tabs T H) (e : Same H H') : LamX.Tabs T H' := t.ext e
end Song

namespace Song
open PySem L2
def top (i : Nat) : Stmt := PySem.Challenge.pw_songturns_k13_whole_hard.main.body.getD i (.Pass ⟨0, 0, 0, 0⟩)
def inC (st : Stmt) (i : Nat) : Stmt := match st with
  | .ClassDef _ _ _ b _ _ _ _ _ _ _ => b.getD i (.Pass ⟨0, 0, 0, 0⟩)
  | _ => .Pass ⟨0, 0, 0, 0⟩
abbrev s_counts_of : Stmt := top 1
def d_counts_of : He.DefD := ⟨("counts_of", none), "counts_of", "counts_of", defArgs s_counts_of, defBody s_counts_of, defScope s_counts_of, [], []⟩
abbrev s_bars : Stmt := top 2
def d_bars : He.DefD := ⟨("bars", none), "bars", "bars", defArgs s_bars, defBody s_bars, defScope s_bars, [], []⟩
abbrev s_barring : Stmt := top 3
def d_barring : He.DefD := ⟨("barring", none), "barring", "barring", defArgs s_barring, defBody s_barring, defScope s_barring, [], []⟩
abbrev s_least_between : Stmt := top 4
def d_least_between : He.DefD := ⟨("least_between", none), "least_between", "least_between", defArgs s_least_between, defBody s_least_between, defScope s_least_between, [], []⟩
abbrev s_keeps : Stmt := top 5
def d_keeps : He.DefD := ⟨("keeps", none), "keeps", "keeps", defArgs s_keeps, defBody s_keeps, defScope s_keeps, [], []⟩
abbrev s_turns_in : Stmt := top 6
def d_turns_in : He.DefD := ⟨("turns_in", none), "turns_in", "turns_in", defArgs s_turns_in, defBody s_turns_in, defScope s_turns_in, [], []⟩
abbrev s_order_for : Stmt := top 7
def d_order_for : He.DefD := ⟨("order_for", none), "order_for", "order_for", defArgs s_order_for, defBody s_order_for, defScope s_order_for, [], []⟩
abbrev s_is_whole : Stmt := top 23
def d_is_whole : He.DefD := ⟨("is_whole", none), "is_whole", "is_whole", defArgs s_is_whole, defBody s_is_whole, defScope s_is_whole, [], []⟩
abbrev s_are_numbers : Stmt := top 24
def d_are_numbers : He.DefD := ⟨("are_numbers", none), "are_numbers", "are_numbers", defArgs s_are_numbers, defBody s_are_numbers, defScope s_are_numbers, [], []⟩
abbrev s_check_many : Stmt := top 25
def d_check_many : He.DefD := ⟨("check_many", none), "check_many", "check_many", defArgs s_check_many, defBody s_check_many, defScope s_check_many, [], []⟩
abbrev s_are_singers : Stmt := top 26
def d_are_singers : He.DefD := ⟨("are_singers", none), "are_singers", "are_singers", defArgs s_are_singers, defBody s_are_singers, defScope s_are_singers, [], []⟩
abbrev s_check_songs : Stmt := top 27
def d_check_songs : He.DefD := ⟨("check_songs", none), "check_songs", "check_songs", defArgs s_check_songs, defBody s_check_songs, defScope s_check_songs, [], []⟩
abbrev s_check_groups : Stmt := top 28
def d_check_groups : He.DefD := ⟨("check_groups", none), "check_groups", "check_groups", defArgs s_check_groups, defBody s_check_groups, defScope s_check_groups, [], []⟩
abbrev s_floor_of : Stmt := top 30
def d_floor_of : He.DefD := ⟨("floor_of", none), "floor_of", "floor_of", defArgs s_floor_of, defBody s_floor_of, defScope s_floor_of, [], []⟩
abbrev s_round_for : Stmt := top 31
def d_round_for : He.DefD := ⟨("round_for", none), "round_for", "round_for", defArgs s_round_for, defBody s_round_for, defScope s_round_for, [], []⟩
abbrev s_in_turn : Stmt := top 32
def d_in_turn : He.DefD := ⟨("in_turn", none), "in_turn", "in_turn", defArgs s_in_turn, defBody s_in_turn, defScope s_in_turn, [], []⟩
abbrev s_more_ahead : Stmt := top 33
def d_more_ahead : He.DefD := ⟨("more_ahead", none), "more_ahead", "more_ahead", defArgs s_more_ahead, defBody s_more_ahead, defScope s_more_ahead, [], []⟩
abbrev s_Evening___init__ : Stmt := inC (top 35) 0
def d_Evening___init__ : He.DefD := ⟨("Evening", some "__init__"), "__init__", "Evening.__init__", defArgs s_Evening___init__, defBody s_Evening___init__, defScope s_Evening___init__, [], []⟩
abbrev s_Evening_wish : Stmt := inC (top 35) 1
def d_Evening_wish : He.DefD := ⟨("Evening", some "wish"), "wish", "Evening.wish", defArgs s_Evening_wish, defBody s_Evening_wish, defScope s_Evening_wish, [], []⟩
abbrev s_Evening_sing : Stmt := inC (top 35) 2
def d_Evening_sing : He.DefD := ⟨("Evening", some "sing"), "sing", "Evening.sing", defArgs s_Evening_sing, defBody s_Evening_sing, defScope s_Evening_sing, [], []⟩
abbrev s_Evening_look_at : Stmt := inC (top 35) 3
def d_Evening_look_at : He.DefD := ⟨("Evening", some "look_at"), "look_at", "Evening.look_at", defArgs s_Evening_look_at, defBody s_Evening_look_at, defScope s_Evening_look_at, [], []⟩
abbrev s_Evening_withdraw : Stmt := inC (top 35) 4
def d_Evening_withdraw : He.DefD := ⟨("Evening", some "withdraw"), "withdraw", "Evening.withdraw", defArgs s_Evening_withdraw, defBody s_Evening_withdraw, defScope s_Evening_withdraw, [], []⟩
abbrev s_Evening_round_now : Stmt := inC (top 35) 5
def d_Evening_round_now : He.DefD := ⟨("Evening", some "round_now"), "round_now", "Evening.round_now", defArgs s_Evening_round_now, defBody s_Evening_round_now, defScope s_Evening_round_now, [], []⟩
abbrev s_Evening_waits : Stmt := inC (top 35) 6
def d_Evening_waits : He.DefD := ⟨("Evening", some "waits"), "waits", "Evening.waits", defArgs s_Evening_waits, defBody s_Evening_waits, defScope s_Evening_waits, [], []⟩
abbrev s_Evening_ahead_of : Stmt := inC (top 35) 7
def d_Evening_ahead_of : He.DefD := ⟨("Evening", some "ahead_of"), "ahead_of", "Evening.ahead_of", defArgs s_Evening_ahead_of, defBody s_Evening_ahead_of, defScope s_Evening_ahead_of, [], []⟩
abbrev s_Evening_within : Stmt := inC (top 35) 8
def d_Evening_within : He.DefD := ⟨("Evening", some "within"), "within", "Evening.within", defArgs s_Evening_within, defBody s_Evening_within, defScope s_Evening_within, [], []⟩
abbrev s_Evening_worst : Stmt := inC (top 35) 9
def d_Evening_worst : He.DefD := ⟨("Evening", some "worst"), "worst", "Evening.worst", defArgs s_Evening_worst, defBody s_Evening_worst, defScope s_Evening_worst, [], []⟩
abbrev s_Evening_tale : Stmt := inC (top 35) 10
def d_Evening_tale : He.DefD := ⟨("Evening", some "tale"), "tale", "Evening.tale", defArgs s_Evening_tale, defBody s_Evening_tale, defScope s_Evening_tale, [], []⟩
abbrev s_is_part : Stmt := top 37
def d_is_part : He.DefD := ⟨("is_part", none), "is_part", "is_part", defArgs s_is_part, defBody s_is_part, defScope s_is_part, [], []⟩
abbrev s_first_wrong : Stmt := top 38
def d_first_wrong : He.DefD := ⟨("first_wrong", none), "first_wrong", "first_wrong", defArgs s_first_wrong, defBody s_first_wrong, defScope s_first_wrong, [], []⟩
abbrev s_Right_shows : Stmt := inC (top 41) 0
def d_Right_shows : He.DefD := ⟨("Right", some "shows"), "shows", "Right.shows", defArgs s_Right_shows, defBody s_Right_shows, defScope s_Right_shows, [], []⟩
abbrev s_Wrong___init__ : Stmt := inC (top 42) 0
def d_Wrong___init__ : He.DefD := ⟨("Wrong", some "__init__"), "__init__", "Wrong.__init__", defArgs s_Wrong___init__, defBody s_Wrong___init__, defScope s_Wrong___init__, [], []⟩
abbrev s_Wrong_shows : Stmt := inC (top 42) 1
def d_Wrong_shows : He.DefD := ⟨("Wrong", some "shows"), "shows", "Wrong.shows", defArgs s_Wrong_shows, defBody s_Wrong_shows, defScope s_Wrong_shows, [], []⟩
abbrev s_Spaced___init__ : Stmt := inC (top 43) 0
def d_Spaced___init__ : He.DefD := ⟨("Spaced", some "__init__"), "__init__", "Spaced.__init__", defArgs s_Spaced___init__, defBody s_Spaced___init__, defScope s_Spaced___init__, [], []⟩
abbrev s_Spaced_shows : Stmt := inC (top 43) 1
def d_Spaced_shows : He.DefD := ⟨("Spaced", some "shows"), "shows", "Spaced.shows", defArgs s_Spaced_shows, defBody s_Spaced_shows, defScope s_Spaced_shows, [], []⟩
abbrev s_Barred___init__ : Stmt := inC (top 44) 0
def d_Barred___init__ : He.DefD := ⟨("Barred", some "__init__"), "__init__", "Barred.__init__", defArgs s_Barred___init__, defBody s_Barred___init__, defScope s_Barred___init__, [], []⟩
abbrev s_Barred_shows : Stmt := inC (top 44) 1
def d_Barred_shows : He.DefD := ⟨("Barred", some "shows"), "shows", "Barred.shows", defArgs s_Barred_shows, defBody s_Barred_shows, defScope s_Barred_shows, [], []⟩
abbrev s_spaced : Stmt := top 46
def d_spaced : He.DefD := ⟨("spaced", none), "spaced", "spaced", defArgs s_spaced, defBody s_spaced, defScope s_spaced, [], []⟩
abbrev s_least_gap : Stmt := top 47
def d_least_gap : He.DefD := ⟨("least_gap", none), "least_gap", "least_gap", defArgs s_least_gap, defBody s_least_gap, defScope s_least_gap, [], []⟩
abbrev s_widest : Stmt := top 48
def d_widest : He.DefD := ⟨("widest", none), "widest", "widest", defArgs s_widest, defBody s_widest, defScope s_widest, [], []⟩
abbrev s_all_orders : Stmt := top 49
def d_all_orders : He.DefD := ⟨("all_orders", none), "all_orders", "all_orders", defArgs s_all_orders, defBody s_all_orders, defScope s_all_orders, [], []⟩
abbrev s_widest_few : Stmt := top 50
def d_widest_few : He.DefD := ⟨("widest_few", none), "widest_few", "widest_few", defArgs s_widest_few, defBody s_widest_few, defScope s_widest_few, [], []⟩
abbrev s_judged : Stmt := top 53
def d_judged : He.DefD := ⟨("judged", none), "judged", "judged", defArgs s_judged, defBody s_judged, defScope s_judged, [], []⟩
abbrev s__law_cell_at : Stmt := top 55
def d__law_cell_at : He.DefD := ⟨("_law_cell_at", none), "_law_cell_at", "_law_cell_at", defArgs s__law_cell_at, defBody s__law_cell_at, defScope s__law_cell_at, [], []⟩
abbrev s__law_draw : Stmt := top 56
def d__law_draw : He.DefD := ⟨("_law_draw", none), "_law_draw", "_law_draw", defArgs s__law_draw, defBody s__law_draw, defScope s__law_draw, [], []⟩
abbrev s__law_value : Stmt := top 57
def d__law_value : He.DefD := ⟨("_law_value", none), "_law_value", "_law_value", defArgs s__law_value, defBody s__law_value, defScope s__law_value, [], []⟩
abbrev s__law_kinds : Stmt := top 58
def d__law_kinds : He.DefD := ⟨("_law_kinds", none), "_law_kinds", "_law_kinds", defArgs s__law_kinds, defBody s__law_kinds, defScope s__law_kinds, [], []⟩
abbrev s__law_due_of : Stmt := top 59
def d__law_due_of : He.DefD := ⟨("_law_due_of", none), "_law_due_of", "_law_due_of", defArgs s__law_due_of, defBody s__law_due_of, defScope s__law_due_of, [], []⟩
abbrev s__law_made_into : Stmt := top 60
def d__law_made_into : He.DefD := ⟨("_law_made_into", none), "_law_made_into", "_law_made_into", defArgs s__law_made_into, defBody s__law_made_into, defScope s__law_made_into, [], []⟩
abbrev s__law_alike_right : Stmt := top 61
def d__law_alike_right : He.DefD := ⟨("_law_alike_right", none), "_law_alike_right", "_law_alike_right", defArgs s__law_alike_right, defBody s__law_alike_right, defScope s__law_alike_right, [], []⟩
abbrev s__law_evenings_right : Stmt := top 62
def d__law_evenings_right : He.DefD := ⟨("_law_evenings_right", none), "_law_evenings_right", "_law_evenings_right", defArgs s__law_evenings_right, defBody s__law_evenings_right, defScope s__law_evenings_right, [], []⟩
abbrev s__law_tales_right : Stmt := top 63
def d__law_tales_right : He.DefD := ⟨("_law_tales_right", none), "_law_tales_right", "_law_tales_right", defArgs s__law_tales_right, defBody s__law_tales_right, defScope s__law_tales_right, [], []⟩
abbrev s__law_more_right : Stmt := top 64
def d__law_more_right : He.DefD := ⟨("_law_more_right", none), "_law_more_right", "_law_more_right", defArgs s__law_more_right, defBody s__law_more_right, defScope s__law_more_right, [], []⟩
abbrev s__law_fields_right : Stmt := top 65
def d__law_fields_right : He.DefD := ⟨("_law_fields_right", none), "_law_fields_right", "_law_fields_right", defArgs s__law_fields_right, defBody s__law_fields_right, defScope s__law_fields_right, [], []⟩
abbrev s__law_exchanged_right : Stmt := top 66
def d__law_exchanged_right : He.DefD := ⟨("_law_exchanged_right", none), "_law_exchanged_right", "_law_exchanged_right", defArgs s__law_exchanged_right, defBody s__law_exchanged_right, defScope s__law_exchanged_right, [], []⟩
abbrev s__law_spoiled_right : Stmt := top 67
def d__law_spoiled_right : He.DefD := ⟨("_law_spoiled_right", none), "_law_spoiled_right", "_law_spoiled_right", defArgs s__law_spoiled_right, defBody s__law_spoiled_right, defScope s__law_spoiled_right, [], []⟩
abbrev s__law_all_whole : Stmt := top 68
def d__law_all_whole : He.DefD := ⟨("_law_all_whole", none), "_law_all_whole", "_law_all_whole", defArgs s__law_all_whole, defBody s__law_all_whole, defScope s__law_all_whole, [], []⟩
abbrev s__law_wholes_right : Stmt := top 69
def d__law_wholes_right : He.DefD := ⟨("_law_wholes_right", none), "_law_wholes_right", "_law_wholes_right", defArgs s__law_wholes_right, defBody s__law_wholes_right, defScope s__law_wholes_right, [], []⟩
abbrev s_law : Stmt := top 70
def d_law : He.DefD := ⟨("law", none), "law", "law", defArgs s_law, defBody s_law, defScope s_law, [], []⟩
def tf : List He.Defn := [("_law_evenings_right", none), ("_law_fields_right", none), ("_law_spoiled_right", none)]
structure Tx (K : PySem.W.Frag) (mg : Str → Option Value) : Prop where
  g_counts_of : mg "counts_of" = some (.ref (He.ga K "counts_of"))
  g_bars : mg "bars" = some (.ref (He.ga K "bars"))
  g_barring : mg "barring" = some (.ref (He.ga K "barring"))
  g_least_between : mg "least_between" = some (.ref (He.ga K "least_between"))
  g_keeps : mg "keeps" = some (.ref (He.ga K "keeps"))
  g_turns_in : mg "turns_in" = some (.ref (He.ga K "turns_in"))
  g_order_for : mg "order_for" = some (.ref (He.ga K "order_for"))
  g_TurnError : mg "TurnError" = some (.ref (He.ga K "TurnError"))
  x_TurnError : ExK K mg "TurnError"
  g_BadMany : mg "BadMany" = some (.ref (He.ga K "BadMany"))
  x_BadMany : ExK K mg "BadMany"
  g_BadSingers : mg "BadSingers" = some (.ref (He.ga K "BadSingers"))
  x_BadSingers : ExK K mg "BadSingers"
  g_BadSong : mg "BadSong" = some (.ref (He.ga K "BadSong"))
  x_BadSong : ExK K mg "BadSong"
  g_BadTale : mg "BadTale" = some (.ref (He.ga K "BadTale"))
  x_BadTale : ExK K mg "BadTale"
  g_BadSongs : mg "BadSongs" = some (.ref (He.ga K "BadSongs"))
  x_BadSongs : ExK K mg "BadSongs"
  g_BadGap : mg "BadGap" = some (.ref (He.ga K "BadGap"))
  x_BadGap : ExK K mg "BadGap"
  g_BadOrder : mg "BadOrder" = some (.ref (He.ga K "BadOrder"))
  x_BadOrder : ExK K mg "BadOrder"
  g_TooMany : mg "TooMany" = some (.ref (He.ga K "TooMany"))
  x_TooMany : ExK K mg "TooMany"
  c_MOST_SINGERS : ∃ t, mg "MOST_SINGERS" = some (.int 6 t)
  c_MOST_OF_SONG : ∃ t, mg "MOST_OF_SONG" = some (.int 3 t)
  c_MOST_SONGS : ∃ t, mg "MOST_SONGS" = some (.int 24 t)
  c_FEW : ∃ t, mg "FEW" = some (.int 5 t)
  g_is_whole : mg "is_whole" = some (.ref (He.ga K "is_whole"))
  g_are_numbers : mg "are_numbers" = some (.ref (He.ga K "are_numbers"))
  g_check_many : mg "check_many" = some (.ref (He.ga K "check_many"))
  g_are_singers : mg "are_singers" = some (.ref (He.ga K "are_singers"))
  g_check_songs : mg "check_songs" = some (.ref (He.ga K "check_songs"))
  g_check_groups : mg "check_groups" = some (.ref (He.ga K "check_groups"))
  g_floor_of : mg "floor_of" = some (.ref (He.ga K "floor_of"))
  g_round_for : mg "round_for" = some (.ref (He.ga K "round_for"))
  g_in_turn : mg "in_turn" = some (.ref (He.ga K "in_turn"))
  g_more_ahead : mg "more_ahead" = some (.ref (He.ga K "more_ahead"))
  g_Evening : mg "Evening" = some (.ref (He.ga K "Evening"))
  cls_Evening : Cls K (He.ga K "Evening")
  mk_Evening : Mk K (He.ga K "Evening") (He.ma K (He.ga K "Evening") "__init__")
  me_Evening_wish : Meth K (He.ga K "Evening") "wish" (He.ma K (He.ga K "Evening") "wish")
  me_Evening_sing : Meth K (He.ga K "Evening") "sing" (He.ma K (He.ga K "Evening") "sing")
  me_Evening_look_at : Meth K (He.ga K "Evening") "look_at" (He.ma K (He.ga K "Evening") "look_at")
  me_Evening_withdraw : Meth K (He.ga K "Evening") "withdraw" (He.ma K (He.ga K "Evening") "withdraw")
  me_Evening_round_now : Meth K (He.ga K "Evening") "round_now" (He.ma K (He.ga K "Evening") "round_now")
  me_Evening_waits : Meth K (He.ga K "Evening") "waits" (He.ma K (He.ga K "Evening") "waits")
  me_Evening_ahead_of : Meth K (He.ga K "Evening") "ahead_of" (He.ma K (He.ga K "Evening") "ahead_of")
  me_Evening_within : Meth K (He.ga K "Evening") "within" (He.ma K (He.ga K "Evening") "within")
  me_Evening_worst : Meth K (He.ga K "Evening") "worst" (He.ma K (He.ga K "Evening") "worst")
  me_Evening_tale : Meth K (He.ga K "Evening") "tale" (He.ma K (He.ga K "Evening") "tale")
  na_Evening_came : NoAttr K (He.ga K "Evening") "came"
  na_Evening_going : NoAttr K (He.ga K "Evening") "going"
  na_Evening_last : NoAttr K (He.ga K "Evening") "last"
  na_Evening_rounds : NoAttr K (He.ga K "Evening") "rounds"
  na_Evening_waiting : NoAttr K (He.ga K "Evening") "waiting"
  g_is_part : mg "is_part" = some (.ref (He.ga K "is_part"))
  g_first_wrong : mg "first_wrong" = some (.ref (He.ga K "first_wrong"))
  g_Answer : mg "Answer" = some (.ref (He.ga K "Answer"))
  cls_Answer : Cls K (He.ga K "Answer")
  g_Right : mg "Right" = some (.ref (He.ga K "Right"))
  cls_Right : Cls K (He.ga K "Right")
  me_Right_shows : Meth K (He.ga K "Right") "shows" (He.ma K (He.ga K "Right") "shows")
  g_Wrong : mg "Wrong" = some (.ref (He.ga K "Wrong"))
  cls_Wrong : Cls K (He.ga K "Wrong")
  mk_Wrong : Mk K (He.ga K "Wrong") (He.ma K (He.ga K "Wrong") "__init__")
  me_Wrong_shows : Meth K (He.ga K "Wrong") "shows" (He.ma K (He.ga K "Wrong") "shows")
  na_Wrong_place : NoAttr K (He.ga K "Wrong") "place"
  g_Spaced : mg "Spaced" = some (.ref (He.ga K "Spaced"))
  cls_Spaced : Cls K (He.ga K "Spaced")
  mk_Spaced : Mk K (He.ga K "Spaced") (He.ma K (He.ga K "Spaced") "__init__")
  me_Spaced_shows : Meth K (He.ga K "Spaced") "shows" (He.ma K (He.ga K "Spaced") "shows")
  na_Spaced_order : NoAttr K (He.ga K "Spaced") "order"
  g_Barred : mg "Barred" = some (.ref (He.ga K "Barred"))
  cls_Barred : Cls K (He.ga K "Barred")
  mk_Barred : Mk K (He.ga K "Barred") (He.ma K (He.ga K "Barred") "__init__")
  me_Barred_shows : Meth K (He.ga K "Barred") "shows" (He.ma K (He.ga K "Barred") "shows")
  na_Barred_singers : NoAttr K (He.ga K "Barred") "singers"
  g_spaced : mg "spaced" = some (.ref (He.ga K "spaced"))
  g_least_gap : mg "least_gap" = some (.ref (He.ga K "least_gap"))
  g_widest : mg "widest" = some (.ref (He.ga K "widest"))
  g_all_orders : mg "all_orders" = some (.ref (He.ga K "all_orders"))
  g_widest_few : mg "widest_few" = some (.ref (He.ga K "widest_few"))
  c_MOST_PARTS : ∃ t, mg "MOST_PARTS" = some (.int 30 t)
  g_judged : mg "judged" = some (.ref (He.ga K "judged"))
  g__law_cell_at : mg "_law_cell_at" = some (.ref (He.ga K "_law_cell_at"))
  g__law_draw : mg "_law_draw" = some (.ref (He.ga K "_law_draw"))
  g__law_value : mg "_law_value" = some (.ref (He.ga K "_law_value"))
  g__law_kinds : mg "_law_kinds" = some (.ref (He.ga K "_law_kinds"))
  g__law_due_of : mg "_law_due_of" = some (.ref (He.ga K "_law_due_of"))
  g__law_made_into : mg "_law_made_into" = some (.ref (He.ga K "_law_made_into"))
  g__law_alike_right : mg "_law_alike_right" = some (.ref (He.ga K "_law_alike_right"))
  g__law_evenings_right : mg "_law_evenings_right" = some (.ref (He.ga K "_law_evenings_right"))
  g__law_tales_right : mg "_law_tales_right" = some (.ref (He.ga K "_law_tales_right"))
  g__law_more_right : mg "_law_more_right" = some (.ref (He.ga K "_law_more_right"))
  g__law_fields_right : mg "_law_fields_right" = some (.ref (He.ga K "_law_fields_right"))
  g__law_exchanged_right : mg "_law_exchanged_right" = some (.ref (He.ga K "_law_exchanged_right"))
  g__law_spoiled_right : mg "_law_spoiled_right" = some (.ref (He.ga K "_law_spoiled_right"))
  g__law_all_whole : mg "_law_all_whole" = some (.ref (He.ga K "_law_all_whole"))
  g__law_wholes_right : mg "_law_wholes_right" = some (.ref (He.ga K "_law_wholes_right"))
  g_law : mg "law" = some (.ref (He.ga K "law"))
  len : mg "len" = none
  isinstance : mg "isinstance" = none
  all : mg "all" = none
  any : mg "any" = none
  range : mg "range" = none
  sorted : mg "sorted" = none
  set : mg "set" = none
  max : mg "max" = none
  min : mg "min" = none
  list : mg "list" = none
  enumerate : mg "enumerate" = none
  zip : mg "zip" = none
  int : mg "int" = none
  bool : mg "bool" = none
  tuple : mg "tuple" = none
  str : mg "str" = none
  dict : mg "dict" = none
  abs : mg "abs" = none
  ValueError : mg "ValueError" = none
  d_counts_of : ∃ fd, FnP K "counts_of" "counts_of" s_counts_of (He.ga K "counts_of") fd
  d_bars : ∃ fd, FnP K "bars" "bars" s_bars (He.ga K "bars") fd
  d_barring : ∃ fd, FnP K "barring" "barring" s_barring (He.ga K "barring") fd
  d_least_between : ∃ fd, FnP K "least_between" "least_between" s_least_between (He.ga K "least_between") fd
  d_keeps : ∃ fd, FnP K "keeps" "keeps" s_keeps (He.ga K "keeps") fd
  d_turns_in : ∃ fd, FnP K "turns_in" "turns_in" s_turns_in (He.ga K "turns_in") fd
  d_order_for : ∃ fd, FnP K "order_for" "order_for" s_order_for (He.ga K "order_for") fd
  d_is_whole : ∃ fd, FnP K "is_whole" "is_whole" s_is_whole (He.ga K "is_whole") fd
  d_are_numbers : ∃ fd, FnP K "are_numbers" "are_numbers" s_are_numbers (He.ga K "are_numbers") fd
  d_check_many : ∃ fd, FnP K "check_many" "check_many" s_check_many (He.ga K "check_many") fd
  d_are_singers : ∃ fd, FnP K "are_singers" "are_singers" s_are_singers (He.ga K "are_singers") fd
  d_check_songs : ∃ fd, FnP K "check_songs" "check_songs" s_check_songs (He.ga K "check_songs") fd
  d_check_groups : ∃ fd, FnP K "check_groups" "check_groups" s_check_groups (He.ga K "check_groups") fd
  d_floor_of : ∃ fd, FnP K "floor_of" "floor_of" s_floor_of (He.ga K "floor_of") fd
  d_round_for : ∃ fd, FnP K "round_for" "round_for" s_round_for (He.ga K "round_for") fd
  d_in_turn : ∃ fd, FnP K "in_turn" "in_turn" s_in_turn (He.ga K "in_turn") fd
  d_more_ahead : ∃ fd, FnP K "more_ahead" "more_ahead" s_more_ahead (He.ga K "more_ahead") fd
  d_Evening___init__ : ∃ fd, FnP K "__init__" "Evening.__init__" s_Evening___init__ (He.ma K (He.ga K "Evening") "__init__") fd
  d_Evening_wish : ∃ fd, FnP K "wish" "Evening.wish" s_Evening_wish (He.ma K (He.ga K "Evening") "wish") fd
  d_Evening_sing : ∃ fd, FnP K "sing" "Evening.sing" s_Evening_sing (He.ma K (He.ga K "Evening") "sing") fd
  d_Evening_look_at : ∃ fd, FnP K "look_at" "Evening.look_at" s_Evening_look_at (He.ma K (He.ga K "Evening") "look_at") fd
  d_Evening_withdraw : ∃ fd, FnP K "withdraw" "Evening.withdraw" s_Evening_withdraw (He.ma K (He.ga K "Evening") "withdraw") fd
  d_Evening_round_now : ∃ fd, FnP K "round_now" "Evening.round_now" s_Evening_round_now (He.ma K (He.ga K "Evening") "round_now") fd
  d_Evening_waits : ∃ fd, FnP K "waits" "Evening.waits" s_Evening_waits (He.ma K (He.ga K "Evening") "waits") fd
  d_Evening_ahead_of : ∃ fd, FnP K "ahead_of" "Evening.ahead_of" s_Evening_ahead_of (He.ma K (He.ga K "Evening") "ahead_of") fd
  d_Evening_within : ∃ fd, FnP K "within" "Evening.within" s_Evening_within (He.ma K (He.ga K "Evening") "within") fd
  d_Evening_worst : ∃ fd, FnP K "worst" "Evening.worst" s_Evening_worst (He.ma K (He.ga K "Evening") "worst") fd
  d_Evening_tale : ∃ fd, FnP K "tale" "Evening.tale" s_Evening_tale (He.ma K (He.ga K "Evening") "tale") fd
  d_is_part : ∃ fd, FnP K "is_part" "is_part" s_is_part (He.ga K "is_part") fd
  d_first_wrong : ∃ fd, FnP K "first_wrong" "first_wrong" s_first_wrong (He.ga K "first_wrong") fd
  d_Right_shows : ∃ fd, FnP K "shows" "Right.shows" s_Right_shows (He.ma K (He.ga K "Right") "shows") fd
  d_Wrong___init__ : ∃ fd, FnP K "__init__" "Wrong.__init__" s_Wrong___init__ (He.ma K (He.ga K "Wrong") "__init__") fd
  d_Wrong_shows : ∃ fd, FnP K "shows" "Wrong.shows" s_Wrong_shows (He.ma K (He.ga K "Wrong") "shows") fd
  d_Spaced___init__ : ∃ fd, FnP K "__init__" "Spaced.__init__" s_Spaced___init__ (He.ma K (He.ga K "Spaced") "__init__") fd
  d_Spaced_shows : ∃ fd, FnP K "shows" "Spaced.shows" s_Spaced_shows (He.ma K (He.ga K "Spaced") "shows") fd
  d_Barred___init__ : ∃ fd, FnP K "__init__" "Barred.__init__" s_Barred___init__ (He.ma K (He.ga K "Barred") "__init__") fd
  d_Barred_shows : ∃ fd, FnP K "shows" "Barred.shows" s_Barred_shows (He.ma K (He.ga K "Barred") "shows") fd
  d_spaced : ∃ fd, FnP K "spaced" "spaced" s_spaced (He.ga K "spaced") fd
  d_least_gap : ∃ fd, FnP K "least_gap" "least_gap" s_least_gap (He.ga K "least_gap") fd
  d_widest : ∃ fd, FnP K "widest" "widest" s_widest (He.ga K "widest") fd
  d_all_orders : ∃ fd, FnP K "all_orders" "all_orders" s_all_orders (He.ga K "all_orders") fd
  d_widest_few : ∃ fd, FnP K "widest_few" "widest_few" s_widest_few (He.ga K "widest_few") fd
  d_judged : ∃ fd, FnP K "judged" "judged" s_judged (He.ga K "judged") fd
  d__law_cell_at : ∃ fd, FnP K "_law_cell_at" "_law_cell_at" s__law_cell_at (He.ga K "_law_cell_at") fd
  d__law_draw : ∃ fd, FnP K "_law_draw" "_law_draw" s__law_draw (He.ga K "_law_draw") fd
  d__law_value : ∃ fd, FnP K "_law_value" "_law_value" s__law_value (He.ga K "_law_value") fd
  d__law_kinds : ∃ fd, FnP K "_law_kinds" "_law_kinds" s__law_kinds (He.ga K "_law_kinds") fd
  d__law_due_of : ∃ fd, FnP K "_law_due_of" "_law_due_of" s__law_due_of (He.ga K "_law_due_of") fd
  d__law_made_into : ∃ fd, FnP K "_law_made_into" "_law_made_into" s__law_made_into (He.ga K "_law_made_into") fd
  d__law_alike_right : ∃ fd, FnP K "_law_alike_right" "_law_alike_right" s__law_alike_right (He.ga K "_law_alike_right") fd
  d__law_evenings_right : ∃ fd, FnP K "_law_evenings_right" "_law_evenings_right" s__law_evenings_right (He.ga K "_law_evenings_right") fd
  d__law_tales_right : ∃ fd, FnP K "_law_tales_right" "_law_tales_right" s__law_tales_right (He.ga K "_law_tales_right") fd
  d__law_more_right : ∃ fd, FnP K "_law_more_right" "_law_more_right" s__law_more_right (He.ga K "_law_more_right") fd
  d__law_fields_right : ∃ fd, FnP K "_law_fields_right" "_law_fields_right" s__law_fields_right (He.ga K "_law_fields_right") fd
  d__law_exchanged_right : ∃ fd, FnP K "_law_exchanged_right" "_law_exchanged_right" s__law_exchanged_right (He.ga K "_law_exchanged_right") fd
  d__law_spoiled_right : ∃ fd, FnP K "_law_spoiled_right" "_law_spoiled_right" s__law_spoiled_right (He.ga K "_law_spoiled_right") fd
  d__law_all_whole : ∃ fd, FnP K "_law_all_whole" "_law_all_whole" s__law_all_whole (He.ga K "_law_all_whole") fd
  d__law_wholes_right : ∃ fd, FnP K "_law_wholes_right" "_law_wholes_right" s__law_wholes_right (He.ga K "_law_wholes_right") fd
  d_law : ∃ fd, FnP K "law" "law" s_law (He.ga K "law") fd
  mkb_Answer : MkB K (He.ga K "Answer")
  mkb_Right : MkB K (He.ga K "Right")
  ic_Evening : IsC K (He.ga K "Evening")
  ki_Evening_Barred : PySem.W.kitOne K (.ref (He.ga K "Evening")) (.ref (He.ga K "Barred")) = some false
  ki_Evening_Right : PySem.W.kitOne K (.ref (He.ga K "Evening")) (.ref (He.ga K "Right")) = some false
  ki_Evening_Spaced : PySem.W.kitOne K (.ref (He.ga K "Evening")) (.ref (He.ga K "Spaced")) = some false
  ki_Evening_Wrong : PySem.W.kitOne K (.ref (He.ga K "Evening")) (.ref (He.ga K "Wrong")) = some false
  ic_Answer : IsC K (He.ga K "Answer")
  ki_Answer_Barred : PySem.W.kitOne K (.ref (He.ga K "Answer")) (.ref (He.ga K "Barred")) = some false
  ki_Answer_Right : PySem.W.kitOne K (.ref (He.ga K "Answer")) (.ref (He.ga K "Right")) = some false
  ki_Answer_Spaced : PySem.W.kitOne K (.ref (He.ga K "Answer")) (.ref (He.ga K "Spaced")) = some false
  ki_Answer_Wrong : PySem.W.kitOne K (.ref (He.ga K "Answer")) (.ref (He.ga K "Wrong")) = some false
  ic_Right : IsC K (He.ga K "Right")
  ki_Right_Barred : PySem.W.kitOne K (.ref (He.ga K "Right")) (.ref (He.ga K "Barred")) = some false
  ki_Right_Right : PySem.W.kitOne K (.ref (He.ga K "Right")) (.ref (He.ga K "Right")) = some true
  ki_Right_Spaced : PySem.W.kitOne K (.ref (He.ga K "Right")) (.ref (He.ga K "Spaced")) = some false
  ki_Right_Wrong : PySem.W.kitOne K (.ref (He.ga K "Right")) (.ref (He.ga K "Wrong")) = some false
  ic_Wrong : IsC K (He.ga K "Wrong")
  ki_Wrong_Barred : PySem.W.kitOne K (.ref (He.ga K "Wrong")) (.ref (He.ga K "Barred")) = some false
  ki_Wrong_Right : PySem.W.kitOne K (.ref (He.ga K "Wrong")) (.ref (He.ga K "Right")) = some false
  ki_Wrong_Spaced : PySem.W.kitOne K (.ref (He.ga K "Wrong")) (.ref (He.ga K "Spaced")) = some false
  ki_Wrong_Wrong : PySem.W.kitOne K (.ref (He.ga K "Wrong")) (.ref (He.ga K "Wrong")) = some true
  ic_Spaced : IsC K (He.ga K "Spaced")
  ki_Spaced_Barred : PySem.W.kitOne K (.ref (He.ga K "Spaced")) (.ref (He.ga K "Barred")) = some false
  ki_Spaced_Right : PySem.W.kitOne K (.ref (He.ga K "Spaced")) (.ref (He.ga K "Right")) = some false
  ki_Spaced_Spaced : PySem.W.kitOne K (.ref (He.ga K "Spaced")) (.ref (He.ga K "Spaced")) = some true
  ki_Spaced_Wrong : PySem.W.kitOne K (.ref (He.ga K "Spaced")) (.ref (He.ga K "Wrong")) = some false
  ic_Barred : IsC K (He.ga K "Barred")
  ki_Barred_Barred : PySem.W.kitOne K (.ref (He.ga K "Barred")) (.ref (He.ga K "Barred")) = some true
  ki_Barred_Right : PySem.W.kitOne K (.ref (He.ga K "Barred")) (.ref (He.ga K "Right")) = some false
  ki_Barred_Spaced : PySem.W.kitOne K (.ref (He.ga K "Barred")) (.ref (He.ga K "Spaced")) = some false
  ki_Barred_Wrong : PySem.W.kitOne K (.ref (He.ga K "Barred")) (.ref (He.ga K "Wrong")) = some false
  km : ∀ i, i < 8 → KM K i
  tne : (tf.map fun p => (He.cT K p).2).Nodup
end Song

/-! ### Ev1: small defs -/
namespace Song
open PySem L2
section
variable {P : Program} {w : World} {K : PySem.W.Frag} {mg : Str → Option Value} {base : Heap}
theorem sc_is_whole : FnScope ["thing"] ["thing"] (defScope s_is_whole) := ⟨rfl, rfl, rfl, by decide +kernel, rfl, by decide +kernel, by decide +kernel⟩
def sp_is_whole (K : PySem.W.Frag) : Sp := fun vs H Q _ => ∃ (v : V) (t : String), vs = [v] ∧ Kd K H v t ∧ Q (.bl (isInt v)) H
theorem fn_is_whole (T : Tx K mg) : Fn P w K mg base "is_whole" 1 (sp_is_whole K) := by
  obtain ⟨fd, F⟩ := T.d_is_whole
  refine ⟨_, fd, _, F.ok (CX := CX0) sc_is_whole (fun vs H Q E h => ?_) (fun cdv A outer s H vs Q E hr h => ?_), T.g_is_whole, F.kp, F.bindsN fun _ _ _ _ _ _ us hl => match us, hl with | [_], _ => rfl⟩
  · obtain ⟨v, t, rfl, _⟩ := h; rfl
  · obtain ⟨v, t, rfl, ht, q⟩ := h
    refine ⟨_, PSs.nox (pss_one (ps_ret (pe_and (pe_callB (show CallR _ _ (rIsi K) from call_isi) (by rfl) T.isinstance (by decide +kernel) (pa_cons (pv 0) (pa_cons (pe_gt (n := "int") T.int (by rfl) (by decide +kernel)) pa_nil))) (pe_one (pe_not (pe_callB (show CallR _ _ (rIsi K) from call_isi) (by rfl) T.isinstance (by decide +kernel) (pa_cons (pv 0) (pa_cons (pe_gt (n := "bool") T.bool (by rfl) (by decide +kernel)) pa_nil)))))))), ?_⟩
    obtain ⟨k1, k2, _⟩ := kit_kd ht
    refine ⟨_, rfl, _, _, _, _, _, rfl, .ty _, ht, k1, _, rfl, ?_⟩
    rw [kd_isInt ht] at q
    by_cases e : t = "int"
    · subst e
      exact iteT ⟨_, rfl, _, _, _, _, _, rfl, .ty _, ht, k2, _, rfl, q⟩
    · by_cases e2 : t = "bool"
      · subst e2
        exact iteT ⟨_, rfl, _, _, _, _, _, rfl, .ty _, ht, k2, _, rfl, q⟩
      · have f1 : (t == "int") = false := beq_eq_false_iff_ne.mpr e
        have f2 : (t == "bool") = false := beq_eq_false_iff_ne.mpr e2
        rw [f1] at q
        rw [f1, f2]
        exact iteF q
theorem sc_are_numbers : FnScope ["thing", "one"] ["thing"] (defScope s_are_numbers) := ⟨rfl, rfl, rfl, by decide +kernel, rfl, by decide +kernel, by decide +kernel⟩
def sp_are_numbers (K : PySem.W.Frag) : Sp := fun vs H Q _ => ∃ v : V, vs = [v] ∧
  ((∃ (a : Addr) (xs : List V), v = .ref a ∧ SqL K H a xs ∧ xs.length ≤ 1000 ∧ (∀ x ∈ xs, ∃ t, Kd K H x t) ∧ ∀ H', Same H H' → Q (.bl (xs.all isInt)) H') ∨ (∃ t, Kd K H v t ∧ t ≠ "list" ∧ Q (.bl false) H))
theorem kd_mono {K : PySem.W.Frag} {H H' : Hp} {v : V} {t : String} (s : Same H H') (h : Kd K H v t) : Kd K H' v t := by
  generalize e : Value.type t = u at h
  cases h with
  | base b =>
    cases b with
    | non => cases e; exact .base .non
    | bl x => cases e; exact .base (.bl x)
    | int x => cases e; exact .base (.int x)
    | str x => cases e; exact .base (.str x)
    | flt x => cases e; exact .base (.flt x)
    | lst h => cases e; exact .base (.lst (s _ _ h))
    | frz h => cases e; exact .base (.frz (s _ _ h))
    | tup h => cases e; exact .base (.tup (s _ _ h))
    | dK h => cases e; exact .base (.dK (s _ _ h))
    | dT h => cases e; exact .base (.dT (s _ _ h))
  | byt b => cases e; exact .byt b
  | set h => cases e; exact .set (s _ _ h)
  | kList h c => cases e; exact .kList h c
  | kTuple h c => cases e; exact .kTuple h c
  | kDict h c => cases e; exact .kDict h c
  | fTuple h => cases e; exact .fTuple (s _ _ h)
  | fDict h => cases e; exact .fDict (s _ _ h)
theorem bls_all (xs : List V) (f : V → Bool) : xs.map (fun x => V.bl (f x)) = (xs.map f).map V.bl := by rw [List.map_map]; rfl
theorem all_id (xs : List V) (f : V → Bool) : (xs.map f).all id = xs.all f := by rw [List.all_map]; rfl
theorem fn_are_numbers (T : Tx K mg) : Fn P w K mg base "are_numbers" 2 (sp_are_numbers K) := by
  obtain ⟨fd, F⟩ := T.d_are_numbers
  refine ⟨_, fd, _, F.ok (CX := CX0) sc_are_numbers (fun vs H Q E h => ?_) (fun cdv A outer s H vs Q E hr h => ?_), T.g_are_numbers, F.kp, F.bindsN fun _ _ _ _ _ _ us hl => match us, hl with | [_], _ => rfl⟩
  · obtain ⟨v, rfl, _⟩ := h; rfl
  · obtain ⟨v, rfl, h⟩ := h
    refine ⟨_, PSs.nox (pss_one (ps_ret (pe_and (pe_callB (show CallR _ _ (rIsi K) from call_isi) (by rfl) T.isinstance (by decide +kernel) (pa_cons (pv 0) (pa_cons (pe_gt (n := "list") T.list (by rfl) (by decide +kernel)) pa_nil))) (pe_one (pe_callB (show CallR _ _ (rAll K) from cr_all (by rfl)) (by rfl) T.all (by decide +kernel) (pa_cons (pe_lc (own := [("one", 1)]) (g := (gName 1)) (tt := tYes) (by rfl) sc_are_numbers.nd (show PI _ _ _ (iList K _) from pi_list (pv 0)) (blkOk_by (by kernel_rfl)) (fun _ _ _ _ _ => (pg_name (i := 1) sc_are_numbers.nd rfl (by first | exact Or.inl rfl | exact Or.inr rfl))) (fun _ _ _ _ _ => pts_nil) (fun _ _ _ _ _ => (pe_fn (fn_is_whole T) (hr.mono (by first | decide | omega)) (by rfl) (pa_cons (pv 1) pa_nil)))) pa_nil)))))), ?_⟩
    rcases h with ⟨a, xs, rfl, hs, hl, ht, q⟩ | ⟨t, ht, hn, q⟩
    · refine ⟨_, rfl, _, _, _, _, _, rfl, .ty _, kd_list hs, (kit_kd (kd_list hs)).2.2.1, _, rfl, iteT ?_⟩
      refine ⟨_, rfl, a, rfl, ⟨_, hs⟩, fun D nD => lc_map (fun x => .bl (isInt x)) hs nD hl ?_ ?_ gname_mono⟩
      · intro i x H1 hx s1 k hk
        refine ⟨rfl, _, rfl, ?_⟩
        obtain ⟨t, ht⟩ := ht x (List.mem_of_getElem? hx)
        exact ⟨x, t, rfl, kd_mono s1 ht, hk _ (Same.refl _)⟩
      · intro H1 s1 hD
        refine ⟨_, xs.map isInt, rfl, SqL.of (by rw [← bls_all]; exact hD), ?_⟩
        rw [all_id]
        exact q _ s1
    · refine ⟨_, rfl, _, _, _, _, _, rfl, .ty _, ht, (kit_kd ht).2.2.1, _, rfl, ?_⟩
      rw [show (t == "list") = false from beq_eq_false_iff_ne.mpr hn]
      exact iteF q
end
end Song

/-! ### Ev2: counts, singers, rounds, turns -/
namespace Song
open PySem L2
/-! #### plain functions -/
/-- rising, each below the next -/
def rising : List Int → Bool
  | [] => true
  | [_] => true
  | a :: b :: r => decide (a < b) && rising (b :: r)
def areSingers (ns : List Int) (many : Int) : Bool := decide (1 ≤ ns.length ∧ ns.length ≤ 3) && ns.all (fun n => decide (0 ≤ n ∧ n < many)) && rising ns
def zipLt (ns : List Int) : List Bool := (ns.zip (ns.drop 1)).map fun p => decide (p.1 < p.2)
theorem zipLt_all : ∀ ns : List Int, (zipLt ns).all id = rising ns
  | [] => rfl
  | [_] => rfl
  | a :: b :: r => by
    have ih := zipLt_all (b :: r)
    unfold zipLt at ih ⊢
    unfold rising
    simp only [List.drop_succ_cons, List.drop_zero, List.zip_cons_cons, List.map_cons, List.all_cons, id] at ih ⊢
    rw [ih]
/-- 0 <= x < many -/
def inR (many : Int) : V → Bool
  | .int n => decide (0 ≤ n) && decide (n < many)
  | _ => false
theorem inR_all (many : Int) (ns : List Int) : (ns.map V.int).all (inR many) = ns.all fun n => decide (0 ≤ n ∧ n < many) := by
  rw [List.all_map]
  congr 1
  funext n
  show (decide (0 ≤ n) && decide (n < many)) = _
  rw [Bool.decide_and]
theorem int_at {ns : List Int} {i : Nat} {x : V} (h : (ns.map V.int)[i]? = some x) : ∃ n, x = .int n ∧ ns[i]? = some n := by
  rw [List.getElem?_map] at h
  cases e : ns[i]? with
  | none => rw [e] at h; cases h
  | some n => rw [e] at h; exact ⟨n, (Option.some.inj h).symm, rfl⟩
theorem cut1 (ns : List Int) : cutV (ns.map V.int) (some 1) none = (ns.drop 1).map V.int := by
  unfold cutV
  cases ns with
  | nil => rfl
  | cons a r =>
    have e1 : HT.sIx ((a :: r).map V.int).length 0 (some 1) = 1 := by
      show HT.sIx _ 0 (some 1) = 1
      simp [HT.sIx]
    have e2 : HT.sIx ((a :: r).map V.int).length ((a :: r).map V.int).length none = ((a :: r).map V.int).length := rfl
    rw [e1, e2, List.take_of_length_le (by simp), ← List.map_drop]
theorem zip_vals (ns : List Int) : (List.range (min (ns.map V.int).length ((ns.drop 1).map V.int).length)).filterMap (fun i => ((ns.zip (ns.drop 1))[i]?).map fun p => V.bl (decide (p.1 < p.2))) = (zipLt ns).map V.bl := by
  have e : min (ns.map V.int).length ((ns.drop 1).map V.int).length = (ns.zip (ns.drop 1)).length := by simp
  rw [e, range_map]
  unfold zipLt
  rw [List.map_map]
  rfl
section
variable {P : Program} {w : World} {K : PySem.W.Frag} {mg : Str → Option Value} {base : Heap}
theorem sc_check_many : FnScope ["many"] ["many"] (defScope s_check_many) := ⟨rfl, rfl, rfl, by decide +kernel, rfl, by decide +kernel, by decide +kernel⟩
def sp_check_many : Sp := fun vs H Q _ => ∃ n : Int, vs = [.int n] ∧ 1 ≤ n ∧ n ≤ 6 ∧ Q .non H
theorem fn_check_many (T : Tx K mg) : Fn P w K mg base "check_many" 2 sp_check_many := by
  obtain ⟨fd, F⟩ := T.d_check_many
  refine ⟨_, fd, _, F.ok (CX := CX0) sc_check_many (fun vs H Q E h => ?_) (fun cdv A outer s H vs Q E hr h => ?_), T.g_check_many, F.kp, F.bindsN fun _ _ _ _ _ _ us hl => match us, hl with | [_], _ => rfl⟩
  · obtain ⟨n, rfl, _⟩ := h; rfl
  · obtain ⟨n, rfl, h1, h6, q⟩ := h
    refine ⟨_, PSs.nox (pss_one (ps_if (PW.pt (pw_or (pt_not (pt_val (pe_fn (fn_is_whole T) (hr.mono (by first | decide | omega)) (by rfl) (pa_cons (pv 0) pa_nil)))) (pw_or1 (pt_not (pt_chain op_le op_le pe_int (pv 0) (pe_gi T.c_MOST_SINGERS (by rfl))))))) (pss_one ps_never) pss_nil)), ?_⟩
    refine ⟨_, rfl, _, _, rfl, kd_int n, _, rfl, iteF ?_⟩
    refine ⟨_, rfl, _, _, rfl, rfl, _, rfl, ?_⟩
    rw [decide_eq_true h1]
    refine iteT ⟨_, _, rfl, rfl, _, rfl, ?_⟩
    rw [decide_eq_true h6]
    exact iteF q
theorem sc_are_singers : FnScope ["thing", "many", "one", "other"] ["thing", "many"] (defScope s_are_singers) := ⟨rfl, rfl, rfl, by decide +kernel, rfl, by decide +kernel, by decide +kernel⟩
def sp_are_singers (K : PySem.W.Frag) : Sp := fun vs H Q _ => ∃ (a : Addr) (ns : List Int) (many : Int), vs = [.ref a, .int many] ∧ SqL K H a (ns.map V.int) ∧ ns.length ≤ 1000 ∧ ∀ H', Same H H' → Q (.bl (areSingers ns many)) H'
theorem fn_are_singers (T : Tx K mg) : Fn P w K mg base "are_singers" 3 (sp_are_singers K) := by
  obtain ⟨fd, F⟩ := T.d_are_singers
  refine ⟨_, fd, _, F.ok (CX := CX0) sc_are_singers (fun vs H Q E h => ?_) (fun cdv A outer s H vs Q E hr h => ?_), T.g_are_singers, F.kp, F.bindsN fun _ _ _ _ _ _ us hl => match us, hl with | [_, _], _ => rfl⟩
  · obtain ⟨a, ns, many, rfl, _⟩ := h; rfl
  · obtain ⟨a, ns, many, rfl, hs, hl, q⟩ := h
    refine ⟨_, PSs.nox (pss_cons (ps_if (PW.pt (pw_or (pt_not (pt_val (pe_fn (fn_are_numbers T) (hr.mono (by first | decide | omega)) (by rfl) (pa_cons (pv 0) pa_nil)))) (pw_or1 (pt_not (pt_chain op_le op_le pe_int (pe_callB (show CallR _ _ (rLenQ K) from call_len_seq) (by rfl) T.len (by decide +kernel) (pa_cons (pv 0) pa_nil)) (pe_gi T.c_MOST_OF_SONG (by rfl))))))) (pss_one (ps_ret pe_bl)) pss_nil)
      (pss_cons (ps_if (pt_not (pt_val (pe_callB (show CallR _ _ (rAll K) from cr_all (by rfl)) (by rfl) T.all (by decide +kernel) (pa_cons (pe_lc (own := [("one", 2)]) (g := (gName 2)) (tt := tYes) (by rfl) sc_are_singers.nd (show PI _ _ _ (iList K _) from pi_list (pv 0)) (blkOk_by (by kernel_rfl)) (fun _ _ _ _ _ => (pg_name (i := 2) sc_are_singers.nd rfl (by first | exact Or.inl rfl | exact Or.inr rfl))) (fun _ _ _ _ _ => pts_nil) (fun _ _ _ _ _ => (pe_chain op_le op_lt pe_int (pv 2) (pv 1)))) pa_nil)))) (pss_one (ps_ret pe_bl)) pss_nil)
      (pss_one (ps_ret (pe_callB (show CallR _ _ (rAll K) from cr_all (by rfl)) (by rfl) T.all (by decide +kernel) (pa_cons (pe_lc (own := [("one", 2), ("other", 3)]) (g := (gTup K 2 (gCons (gName 2) (gCons (gName 3) gNil)))) (tt := tYes) (by rfl) sc_are_singers.nd (show PI _ _ _ (iZip K _) from pi_zip (by rfl) T.zip (pa_cons (pv 0) (pa_cons (pe_slice (show SlR _ (rSlL K) from sl_list) (pv 0) (po_some pe_int) po_none) pa_nil))) (blkOk_by (by kernel_rfl)) (fun _ _ _ _ _ => (show PG _ _ (gTup K _ _) from pg_tup rfl (pgs_cons (pg_name (i := 2) sc_are_singers.nd rfl (by first | exact Or.inl rfl | exact Or.inr rfl)) (pgs_cons (pg_name (i := 3) sc_are_singers.nd rfl (by first | exact Or.inl rfl | exact Or.inr rfl)) pgs_nil)))) (fun _ _ _ _ _ => pts_nil) (fun _ _ _ _ _ => (pe_cmpR op_lt (pv 2) (pv 3) (nomark _)))) pa_nil)))))), ?_⟩
    have hlV : (ns.map V.int).length ≤ 1000 := by rw [List.length_map]; exact hl
    have allI : (ns.map V.int).all isInt = true := by
      rw [List.all_map, List.all_eq_true]; intro x _; rfl
    refine ⟨_, rfl, _, rfl, .inl ⟨a, _, rfl, hs, hlV, fun x hx => ?_, fun H1 s1 => ?_⟩⟩
    · obtain ⟨i, _, rfl⟩ := List.mem_map.mp hx
      exact ⟨_, kd_int i⟩
    rw [allI]
    refine ⟨_, rfl, iteF ?_⟩
    refine ⟨_, rfl, a, _, rfl, .inl (s1.seq hs), _, _, rfl, rfl, _, rfl, ?_⟩
    rw [List.length_map]
    by_cases h1 : (1 : Int) ≤ (ns.length : Int)
    case neg =>
      have e0 : areSingers ns many = false := by
        unfold areSingers
        rw [decide_eq_false (by omega)]; rfl
      rw [decide_eq_false h1]
      refine iteF ⟨_, rfl, iteT ?_⟩
      rw [e0] at q
      exact q _ s1
    rw [decide_eq_true h1]
    refine iteT ⟨_, _, rfl, rfl, _, rfl, ?_⟩
    by_cases h3 : (ns.length : Int) ≤ 3
    case neg =>
      have e0 : areSingers ns many = false := by
        unfold areSingers
        rw [decide_eq_false (by omega)]; rfl
      rw [decide_eq_false h3]
      rw [e0] at q
      exact iteT (q _ s1)
    rw [decide_eq_true h3]
    refine iteF ?_
    refine ⟨_, rfl, a, rfl, ⟨_, s1.seq hs⟩, fun D nD => lc_map (fun x => .bl (inR many x)) (s1.seq hs) nD hlV ?_ ?_ gname_mono⟩
    · intro i x H2 hx s2 k hk
      obtain ⟨n, rfl, _⟩ := int_at hx
      refine ⟨rfl, _, rfl, _, _, rfl, rfl, _, rfl, ?_⟩
      have hk2 : k (.bl (decide (0 ≤ n) && decide (n < many))) H2 := hk H2 (Same.refl _)
      by_cases h0 : (0 : Int) ≤ n
      · rw [decide_eq_true h0] at hk2 ⊢
        exact iteT ⟨_, rfl, _, _, rfl, rfl, hk2⟩
      · rw [decide_eq_false h0] at hk2 ⊢
        exact iteF hk2
    intro H2 s2 hD
    refine ⟨_, (ns.map V.int).map (inR many), rfl, SqL.of (by rw [← bls_all]; exact hD), _, rfl, ?_⟩
    rw [all_id, inR_all]
    by_cases hA : (ns.all fun n => decide (0 ≤ n ∧ n < many)) = true
    case neg =>
      have e0 : areSingers ns many = false := by
        unfold areSingers
        rw [Bool.eq_false_iff.mpr hA, Bool.and_false]; rfl
      rw [Bool.eq_false_iff.mpr hA]
      rw [e0] at q
      exact iteT (q _ (s1.trans s2))
    rw [hA]
    refine iteF ?_
    have hs2 := (s1.trans s2).seq hs
    refine ⟨_, rfl, _, rfl, _, rfl, a, _, rfl, hs2, fun p np => ?_⟩
    refine to_new np fun H3 s3 hp => ?_
    rw [cut1] at hp
    refine ⟨a, p, _, _, rfl, s3.seq hs2, SqL.of hp, fun D nD => lc_pure (walk_zip rfl) sqL2_mono ⟨s3.seq hs2, SqL.of hp⟩ (fun i => ((ns.zip (ns.drop 1))[i]?).map fun p => V.bl (decide (p.1 < p.2))) nD (by simp; omega) ?_ ?_⟩
    · rintro i v H4 H5 hi s4 ⟨t, x, y, rfl, nt, rfl, hx, hy⟩ k kn hk _
      obtain ⟨n, rfl, hn⟩ := int_at hx
      obtain ⟨m, rfl, hm⟩ := int_at hy
      refine ⟨t, _, rfl, SqT.of upd_same, rfl, _, _, rfl, _, _, rfl, rfl, rfl, yes_of ?_⟩
      refine ⟨_, rfl, _, rfl, _, _, rfl, rfl, ?_⟩
      refine hk _ _ ?_ (Same.new nt)
      have e : (ns.zip (ns.drop 1))[i]? = some (n, m) := by rw [List.getElem?_zip_eq_some]; exact ⟨hn, hm⟩
      rw [e]
      rfl
    · intro H4 s4 hD4
      rw [zip_vals] at hD4
      refine ⟨_, zipLt ns, rfl, SqL.of hD4, ?_⟩
      rw [zipLt_all]
      have e : areSingers ns many = rising ns := by
        unfold areSingers
        rw [hA, decide_eq_true (by omega)]; rfl
      rw [← e]
      exact q _ (((s1.trans s2).trans s3).trans s4)
end
end Song

/-! ### Ut: small things used everywhere -/
namespace Song
open PySem L2
theorem at_int {ls : List Int} {s : Int} (h0 : 0 ≤ s) (h1 : s < ls.length) : atI (ls.map V.int) s = some (.int (ls.getD s.toNat 0)) := by
  obtain ⟨j, rfl⟩ := Int.eq_ofNat_of_zero_le h0
  have hj : j < ls.length := by omega
  refine atI_nat ?_
  rw [List.getElem?_map, List.getElem?_eq_getElem hj]
  simp [List.getD_eq_getElem?_getD, List.getElem?_eq_getElem hj]
theorem max_ite (i j : Int) : (if j > i then j else i) = max i j := by
  split <;> omega
/-- all of ss are places of a list so long -/
def InB (n : Nat) (ss : List Int) : Prop := ∀ s ∈ ss, 0 ≤ s ∧ s < (n : Int)
theorem off_put {S : List Addr} {H : Hp} {a : Addr} {o : HO} (h : a ∈ S) : off S (upd H a o) = off S H := by
  funext b
  by_cases q : b ∈ S
  · rw [off_in q, off_in q]
  · rw [off_out q, off_out q, upd_ne (fun z => q (by rw [z]; exact h))]
theorem new_out {S : List Addr} {H : Hp} {t : Addr} (dom : ∀ a ∈ S, ∃ o, H a = some o) (nt : H t = none) : t ∉ S := fun q => by
  obtain ⟨o, h⟩ := dom t q
  rw [nt] at h; cases h
theorem dom_put {S : List Addr} {H : Hp} {b : Addr} {o : HO} (dom : ∀ a ∈ S, ∃ o, H a = some o) : ∀ a ∈ S, ∃ o', upd H b o a = some o' := fun a ha => by
  by_cases e : a = b
  · rw [e]; exact ⟨o, upd_same⟩
  · rw [upd_ne e]; exact dom a ha
theorem dom_same {S : List Addr} {H H' : Hp} (s : Same H H') (dom : ∀ a ∈ S, ∃ o, H a = some o) : ∀ a ∈ S, ∃ o', H' a = some o' := fun a ha => by
  obtain ⟨o, h⟩ := dom a ha
  exact ⟨o, s _ _ h⟩
theorem rep_flat (n : Nat) : (List.replicate n [V.int 0]).flatten = List.replicate n (V.int 0) := by
  induction n with
  | zero => rfl
  | succ n ih => rw [List.replicate_succ, List.flatten_cons, ih]; rfl
theorem rep_ints (n : Nat) : (List.replicate n (V.int 0)) = (List.replicate n (0 : Int)).map V.int := by rw [List.map_replicate]
theorem Fra.le {S S' : List Addr} {H H' : Hp} (f : Fra S' H H') (sub : ∀ a ∈ S', a ∈ S) : Same (Song.off S H) H' := fun b o h => by
  obtain ⟨q, h⟩ := off_some h
  exact f b o (fun z => q (sub b z)) h
theorem ixN_of {n : Nat} {s : Int} (h0 : 0 ≤ s) (h1 : s < (n : Int)) : ixN n s = some s.toNat := by
  unfold ixN
  rw [if_pos h0, if_pos h1]
theorem areS_len {ss : List Int} {m : Int} (h : areSingers ss m = true) : 1 ≤ ss.length ∧ ss.length ≤ 3 ∧ (∀ s ∈ ss, 0 ≤ s ∧ s < m) ∧ rising ss = true := by
  unfold areSingers at h
  simp only [Bool.and_eq_true, decide_eq_true_eq, List.all_eq_true] at h
  exact ⟨h.1.1.1, h.1.1.2, h.1.2, h.2⟩
theorem snoc_ints (ns : List Int) (n : Int) : (ns ++ [n]).map V.int = ns.map V.int ++ [V.int n] := by rw [List.map_append]; rfl
theorem lt_line {n : Nat} (h : n ≤ 1000) : n < sizeLine := Nat.lt_of_le_of_lt h (by decide)
theorem nodup_len : ∀ {n : Nat} {ws : List Int}, InB n ws → ws.Nodup → ws.length ≤ n
  | 0, [], _, _ => Nat.le_refl _
  | 0, w :: r, h, _ => by have := h w (by simp); omega
  | n + 1, ws, h, nd => by
    have h1 : InB n (ws.erase (n : Int)) := fun s hs => by
      have h2 := h s (List.mem_of_mem_erase hs)
      have h3 : s ≠ (n : Int) := fun e => by
        rw [e] at hs
        exact (nd.not_mem_erase) hs
      omega
    have h2 := nodup_len h1 (nd.erase _)
    have h3 := List.length_erase (a := (n : Int)) (l := ws)
    split at h3 <;> omega
def optV : Option Int → V
  | none => .non
  | some n => .int n
def optD : Option Int → PyData
  | none => .none
  | some n => .int n
def Shp (k : Nat) (d : PyData) : Prop := d.canLay0 = true ∧ d.depth ≤ k
theorem shp_all {k : Nat} : ∀ {xs : List PyData}, (∀ x ∈ xs, Shp k x) → PyData.canLayAll0 xs = true ∧ PyData.depthAll xs ≤ k
  | [], _ => ⟨rfl, Nat.zero_le _⟩
  | x :: xs, h => by
    obtain ⟨h1, h2⟩ := h x (by simp)
    obtain ⟨h3, h4⟩ := shp_all (xs := xs) fun y hy => h y (by simp [hy])
    refine ⟨by rw [PyData.canLayAll0, h1, h3]; rfl, ?_⟩
    rw [PyData.depthAll]
    exact Nat.max_le.mpr ⟨h2, h4⟩
theorem shp_list {k : Nat} {xs : List PyData} (h : ∀ x ∈ xs, Shp k x) : Shp (k + 1) (.list xs) := by
  obtain ⟨h1, h2⟩ := shp_all h
  refine ⟨by rw [PyData.canLay0]; exact h1, ?_⟩
  rw [PyData.depth]
  omega
theorem shp_tuple {k : Nat} {xs : List PyData} (h : ∀ x ∈ xs, Shp k x) : Shp (k + 1) (.tuple xs) := by
  obtain ⟨h1, h2⟩ := shp_all h
  refine ⟨by rw [PyData.canLay0]; exact h1, ?_⟩
  rw [PyData.depth]
  omega
theorem shp_int {k : Nat} (i : Int) : Shp (k + 1) (.int i) := ⟨by rw [PyData.canLay0], by rw [PyData.depth] <;> omega⟩
theorem Shp.mono {k m : Nat} {d : PyData} (h : Shp k d) (hk : k ≤ m) : Shp m d := ⟨h.1, Nat.le_trans h.2 hk⟩
theorem Shp.ok {k : Nat} {d : PyData} (h : Shp k d) (hk : k ≤ 64 := by decide) : SeqAt.shaped d = true := by
  unfold SeqAt.shaped
  rw [h.1, decide_eq_true (Nat.le_trans h.2 hk)]; rfl
theorem shp_ints (ns : List Int) : Shp 2 (.list (ns.map PyData.int)) := shp_list fun x hx => by
  obtain ⟨i, _, rfl⟩ := List.mem_map.mp hx
  exact shp_int i
theorem shp_optD (o : Option Int) : Shp 1 (optD o) := by
  cases o with
  | none => exact ⟨by unfold optD; rw [PyData.canLay0], by unfold optD; rw [PyData.depth] <;> omega⟩
  | some n => exact shp_int n
theorem shp_word {x : Str} (h : PyData.canLay0 (.str x) = true) {k : Nat} : Shp (k + 1) (.str x) := ⟨h, by rw [PyData.depth] <;> omega⟩
theorem eqv_self {k : Nat} {d : PyData} (h : Shp k d) : PyData.eqv d d = true := PySem.SeqAt.eqv_refl d h.1
theorem eqv_nil (ns : List Int) : PyData.eqv (.list (ns.map PyData.int)) (.list []) = ns.isEmpty := by
  cases ns with
  | nil => rfl
  | cons a r => rfl
theorem shp_nil : Shp 1 (.list []) := shp_list (k := 0) fun x hx => by cases hx
theorem inV_ints (n : Int) (ns : List Int) : inV (.int n) (ns.map V.int) = decide (n ∈ ns) := by
  unfold inV
  rw [List.any_map]
  induction ns with
  | nil => rfl
  | cons a r ih =>
    rw [List.any_cons, ih]
    show ((a == n) || _) = _
    by_cases e : a = n
    · subst e; simp
    · have : n ≠ a := fun z => e z.symm
      simp [e, this]
theorem flat_ints (ns : List Int) : (ns.map V.int).all flatV = true := by
  rw [List.all_map, List.all_eq_true]; intro x _; rfl
theorem dp_opt {K : PySem.W.Frag} {H : Hp} (o : Option Int) : Dp K H (optV o) (optD o) := by
  cases o with
  | none => exact .non
  | some n => exact .int n
theorem cut63 {ns : List Int} (h : ns.length ≤ 63) : cutV (ns.map V.int) none (some 63) = ns.map V.int := by
  unfold cutV
  have e1 : HT.sIx (ns.map V.int).length 0 none = 0 := rfl
  have e2 : HT.sIx (ns.map V.int).length (ns.map V.int).length (some 63) = (ns.map V.int).length := by
    simp only [HT.sIx]
    rw [if_neg (by decide), List.length_map]
    have : (63 : Int).toNat = 63 := rfl
    omega
  rw [e1, e2]
  exact List.take_of_length_le (by simp)
/-- the making of an evening, seen from ahead of it -/
theorem made_same {H H' : Hp} {x dx : Addr} {o o' : HO} (nx : H x = none) (ndx : H dx = none) (f : Fra [x] (upd (upd H dx o) x o') H') : Same H H' := fun b o2 e => by
  have n1 : b ≠ x := ne_of_none e nx
  have n2 : b ≠ dx := ne_of_none e ndx
  refine f.one n1 ?_
  rw [upd_ne n1, upd_ne n2]
  exact e
theorem made_free {H : Hp} {x dx a : Addr} {o o' : HO} (h : upd (upd H dx o) x o' a = none) : H a = none := by
  have n1 : a ≠ x := fun e => by rw [e, upd_same] at h; cases h
  rw [upd_ne n1] at h
  have n2 : a ≠ dx := fun e => by rw [e, upd_same] at h; cases h
  rw [upd_ne n2] at h
  exact h
theorem sqT_mono {K : PySem.W.Frag} {a : Addr} {xs : List V} (H H' : Hp) (s : Same H H') (h : SqT K H a xs) : SqT K H' a xs := Same.sqT s h
/-- over a tuple -/
theorem lc_mapT {g : TG} {te : TE} {vs : List Nat} {σ : L2.St} {H1 : Hp} {D : Addr} {Qd : Hp → Prop} {K : PySem.W.Frag} {a : Addr} {xs : List V} (f : V → V) (hSq : SqT K H1 a xs) (nD : H1 D = none) (hlen : xs.length ≤ 1000)
    (hs : ∀ (i : Nat) x H, xs[i]? = some x → Same H1 H → ∀ k : V → Hp → Prop, (∀ H', Same H H' → k (f x) H') → g x (wipe σ vs) H fun σ2 H2 => wipe σ2 vs = wipe σ vs ∧ te σ2 H2 k)
    (hd : ∀ H, Same H1 H → H D = some (.lst (xs.map f)) → Qd H)
    (hg : ∀ x σ H Q Q', (∀ σ2 H2, Q σ2 H2 → Q' σ2 H2) → g x σ H Q → g x σ H Q') : LcAsks (Itt K a) g tYes te vs σ H1 D Qd := by
  refine lc_pure walk_tup sqT_mono hSq (fun i => xs[i]?.map f) nD hlen (fun i x H H' hi s hY k kn hk _ => ?_) (fun H s hD => hd H s (by rw [← range_map]; exact hD))
  obtain ⟨rfl, hx⟩ := hY
  refine hg _ _ _ _ _ (fun σ2 H2 h => ?_) (hs i x H' hx s k fun H2 s2 => hk _ H2 (by rw [hx]; rfl) s2)
  exact ⟨h.1, yes_of h.2⟩
theorem eqv_ints (ns : List Int) : PyData.eqv (.list (ns.map PyData.int)) (.list (ns.map PyData.int)) = true := eqv_self (shp_ints ns)
theorem eqvI_all : ∀ xs ys : List Int, PyData.eqvAll (xs.map PyData.int) (ys.map PyData.int) = decide (xs = ys)
  | [], [] => rfl
  | [], _ :: _ => rfl
  | _ :: _, [] => rfl
  | a :: r, b :: t => by
    show ((a == b) && PyData.eqvAll (r.map PyData.int) (t.map PyData.int)) = _
    rw [eqvI_all r t]
    by_cases h : a = b
    · subst h
      rw [beq_self_eq_true, Bool.true_and]
      exact decide_eq_decide.mpr ⟨fun e => by rw [e], fun e => by injection e⟩
    · rw [beq_eq_false_iff_ne.mpr h, Bool.false_and, decide_eq_false (fun e => h (by injection e))]
theorem eqv_intsD (xs ys : List Int) : PyData.eqv (.list (xs.map PyData.int)) (.list (ys.map PyData.int)) = decide (xs = ys) := eqvI_all xs ys
theorem rising_of : ∀ {ns : List Int}, ns.Pairwise (· < ·) → rising ns = true
  | [], _ => rfl
  | [_], _ => rfl
  | a :: b :: r, h => by
    obtain ⟨h1, h2⟩ := List.pairwise_cons.mp h
    unfold rising
    rw [decide_eq_true (h1 b (by simp)), rising_of h2]; rfl
theorem areS_of {ns : List Int} {m : Int} (h1 : 1 ≤ ns.length) (h3 : ns.length ≤ 3) (hi : ∀ s ∈ ns, 0 ≤ s ∧ s < m) (hr : rising ns = true) : areSingers ns m = true := by
  unfold areSingers
  rw [decide_eq_true (And.intro h1 h3), hr, List.all_eq_true.mpr fun s hs => decide_eq_true (hi s hs)]; rfl
theorem areS_take {ns : List Int} {m : Int} (h : areSingers ns m = true) : areSingers (ns.take 1) m = true := by
  obtain ⟨h1, h3, hi, hr⟩ := areS_len h
  cases ns with
  | nil => simp at h1
  | cons a r => exact areS_of (by simp) (by simp) (fun s hs => hi s (by simp at hs; simp [hs])) rfl
theorem cut_to1 (ns : List Int) : cutV (ns.map V.int) none (some 1) = (ns.take 1).map V.int := by
  unfold cutV
  cases ns with
  | nil => rfl
  | cons a r =>
    have e1 : HT.sIx ((a :: r).map V.int).length 0 none = 0 := rfl
    have e2 : HT.sIx ((a :: r).map V.int).length ((a :: r).map V.int).length (some 1) = 1 := by simp [HT.sIx]
    rw [e1, e2]; rfl
theorem cut_ints (ns : List Int) {b e : Int} (hb : 0 ≤ b) (he : 0 ≤ e) : ∃ ms : List Int, cutV (ns.map V.int) (some b) (some e) = ms.map V.int ∧ ms.length ≤ (e - b).toNat ∧ ∀ z ∈ ms, z ∈ ns := by
  unfold cutV
  refine ⟨(ns.drop (HT.sIx (ns.map V.int).length 0 (some b))).take (HT.sIx (ns.map V.int).length (ns.map V.int).length (some e) - HT.sIx (ns.map V.int).length 0 (some b)), ?_, ?_, ?_⟩
  · rw [← List.map_drop, ← List.map_take]
  · rw [List.length_take, List.length_drop]
    have e1 : ∀ (n d : Nat) (x : Int), 0 ≤ x → HT.sIx n d (some x) = min x.toNat n := fun n d x hx => by
      simp only [HT.sIx]
      rw [if_neg (by omega)]
    rw [e1 _ _ _ hb, e1 _ _ _ he, List.length_map]
    omega
  · intro z hz
    exact List.mem_of_mem_drop (List.mem_of_mem_take hz)
theorem eqv_pair (a b c d : Int) : PyData.eqv (.tuple [.int a, .int b]) (.tuple [.int c, .int d]) = decide (a = c ∧ b = d) := by
  show ((a == c) && ((b == d) && true)) = _
  by_cases h1 : a = c <;> by_cases h2 : b = d <;> simp [h1, h2]
theorem eqv_opt (o o' : Option Int) : PyData.eqv (optD o) (optD o') = decide (o = o') := by
  cases o with
  | none =>
    cases o' with
    | none => rfl
    | some n => rfl
  | some m =>
    cases o' with
    | none => rfl
    | some n =>
      show (m == n) = _
      by_cases h : m = n <;> simp [h]
theorem shp_pair (a b : Int) : Shp 2 (.tuple [.int a, .int b]) := shp_tuple fun x hx => by
  simp only [List.mem_cons, List.not_mem_nil, or_false] at hx
  rcases hx with rfl | rfl <;> exact shp_int _
theorem cut_head (vs : List V) (n : Nat) : cutV vs none (some (n : Int)) = vs.take n := by
  unfold cutV
  have e1 : HT.sIx vs.length 0 none = 0 := rfl
  have e2 : HT.sIx vs.length vs.length (some (n : Int)) = min n vs.length := by
    simp only [HT.sIx]
    rw [if_neg (by omega)]
    rfl
  rw [e1, e2, List.drop_zero]
  by_cases h : n ≤ vs.length
  · rw [Nat.min_eq_left h]; rfl
  · rw [Nat.min_eq_right (by omega), List.take_of_length_le (by omega), List.take_of_length_le (by omega)]
theorem cut_tail (vs : List V) (n : Nat) : cutV vs (some (n : Int)) none = vs.drop n := by
  unfold cutV
  have e1 : HT.sIx vs.length 0 (some (n : Int)) = min n vs.length := by
    simp only [HT.sIx]
    rw [if_neg (by omega)]
    rfl
  have e2 : HT.sIx vs.length vs.length none = vs.length := rfl
  rw [e1, e2]
  by_cases h : n ≤ vs.length
  · rw [Nat.min_eq_left h]
    exact List.take_of_length_le (by rw [List.length_drop]; omega)
  · rw [Nat.min_eq_right (by omega), List.drop_of_length_le (show vs.length ≤ n by omega), List.drop_length]
    exact List.take_nil
@[elab_as_elim] theorem to_made {H : Hp} {x dx : Addr} {o o' : HO} {Q : Hp → Prop} (nx : H x = none) (ndx : H dx = none) (h : ∀ H', Same H H' → H' x = some o' → Q H') : Q (upd (upd H dx o) x o') :=
  h _ (made_same (o := o) (o' := o') nx ndx (Fra.refl _ _)) upd_same
theorem pw_of : ∀ {ns : List Int}, rising ns = true → ns.Pairwise (· < ·)
  | [], _ => .nil
  | [_], _ => List.pairwise_singleton _ _
  | a :: b :: r, h => by
    unfold rising at h
    rw [Bool.and_eq_true] at h
    have h1 := of_decide_eq_true h.1
    have ih := pw_of h.2
    refine List.pairwise_cons.mpr ⟨fun x hx => ?_, ih⟩
    rcases List.mem_cons.mp hx with e | e
    · rw [e]; exact h1
    · exact Int.lt_trans h1 ((List.pairwise_cons.mp ih).1 x e)
/-- two rising lists of the same members are one -/
theorem pw_ext : ∀ {xs ys : List Int}, xs.Pairwise (· < ·) → ys.Pairwise (· < ·) → (∀ z, z ∈ xs ↔ z ∈ ys) → xs = ys
  | [], [], _, _, _ => rfl
  | [], b :: _, _, _, h => by have := (h b).mpr (by simp); cases this
  | a :: _, [], _, _, h => by have := (h a).mp (by simp); cases this
  | a :: r, b :: t, h1, h2, h => by
    obtain ⟨p1, q1⟩ := List.pairwise_cons.mp h1
    obtain ⟨p2, q2⟩ := List.pairwise_cons.mp h2
    have e : a = b := by
      have m1 := (h a).mp (by simp)
      have m2 := (h b).mpr (by simp)
      rcases List.mem_cons.mp m1 with e | e
      · exact e
      · rcases List.mem_cons.mp m2 with e2 | e2
        · exact e2.symm
        · have := p1 b e2; have := p2 a e; omega
    subst e
    rw [pw_ext q1 q2 fun z => ⟨fun m => ?_, fun m => ?_⟩]
    · rcases List.mem_cons.mp ((h z).mp (by simp [m])) with e | e
      · have := p1 z m; omega
      · exact e
    · rcases List.mem_cons.mp ((h z).mpr (by simp [m])) with e | e
      · have := p2 z m; omega
      · exact e
theorem off_free {S : List Addr} {H H' : Hp} (s : Same H H') (n : ∀ a ∈ S, H a = none) : Same H (off S H') := fun b o e => by
  rw [off_out (fun z => by rw [n b z] at e; cases e)]
  exact s _ _ e
theorem dom_fra {S X : List Addr} {H H' : Hp} (f : Fra X H H') (dom : ∀ a ∈ S, ∃ o, H a = some o) (domX : ∀ a ∈ X, ∃ o, H' a = some o) : ∀ a ∈ S, ∃ o, H' a = some o := fun a ha => by
  by_cases e : a ∈ X
  · exact domX a e
  · obtain ⟨o, h⟩ := dom a ha
    exact ⟨o, f a o e h⟩
theorem foldl_take {α β : Type} (f : β → α → β) (b : β) : ∀ (xs : List α) (i : Nat) (x : α), xs[i]? = some x → (xs.take (i + 1)).foldl f b = f ((xs.take i).foldl f b) x := fun xs i x h => by
  obtain ⟨hi, e⟩ := List.getElem?_eq_some_iff.mp h
  rw [List.take_succ_eq_append_getElem hi, List.foldl_append, e]; rfl
end Song

/-! ### Kn: _law_kinds, _law_due_of -/
namespace Song
open PySem L2
/-- just one of the eight, and a ValueError -/
def due (i : Nat) : List V := [.bl (i == 0), .bl (i == 1), .bl (i == 2), .bl (i == 3), .bl (i == 4), .bl (i == 5), .bl (i == 6), .bl (i == 7), .bl true]
section
variable {P : Program} {w : World} {K : PySem.W.Frag} {mg : Str → Option Value} {base : Heap}
theorem sc__law_kinds : FnScope ["_law_ask", "_law_found", "error"] ["_law_ask"] (defScope s__law_kinds) := ⟨rfl, rfl, rfl, by decide +kernel, rfl, by decide +kernel, by decide +kernel⟩
theorem lamT {d : Str} (T : Tx K mg) (B : ∀ p ∈ tf, LamX.TabB base mg (He.cT K p).1 (He.cT K p).2) (h : (d, none) ∈ tf) : LamT K mg base (TLof K tf) d := lamT_of B T.tne h
/-- what _law_kinds makes of an ask that is refused as i tells -/
def TTk (K : PySem.W.Frag) (i : Nat) : (XK → Hp → VK → Prop) → Hp → VK → Prop := fun tl H Q => ∀ H1, Same H H1 → ∀ Q',
  tl (fun cls d H' => cls = .ref (He.ga K (cn i)) ∧ d = none ∧ ∀ p H'', Same H' H'' → H'' p = some (.lst (due i)) → Q (.ref p) H'') H1 Q'
/-- what the suite of _law_kinds leaves -/
def tsK (K : PySem.W.Frag) (a : Addr) (cls : Value) (d : Option Addr) : TS := fun D σ H => ∃ i, i < 8 ∧ cls = .ref (He.ga K (cn i)) ∧ d = none ∧ σ.length = 3 ∧ σ[2]? = some (some (.ref a)) ∧
  ∀ p H', Same H H' → H' p = some (.lst (due i)) → D.nx (σ.set 1 (some (.ref p))) H'
abbrev kBody : List Stmt := defBody s__law_kinds
def kSuite : List Stmt := match kBody with
  | [_, .Try _ [.ExceptHandler _ _ b _] _ _ _, _] => b
  | _ => []
abbrev kCx (X : Cx) (g : Addr) (cdg : Value) (s : Shared) (H : Hp) : Cx := (cxOf C8.CX0 X.prog X.w X.K X.mg X.base ["_law_ask", "_law_found", "error"] "_law_kinds" (defScope s__law_kinds) g cdg X.A X.stack s H C8.E0).nox
theorem set_set1 {σ : St} {a b : Option V} : (σ.set 1 a).set 1 b = σ.set 1 b := by simp
theorem gives_kinds {X : Cx} {g : Addr} {cdg : Value} {q : Str} {i : Nat} (hi : i < 8) (T : Tx X.K X.mg) :
    LamX.GivesTo X ["_law_ask", "_law_found", "error"] "_law_kinds" (defScope s__law_kinds) g cdg kBody "_law_ask" q (TTk X.K i) := by
  intro f c' s H Q tl act hc h
  have hsu : ∀ (a : Addr) (oe : Obj) (cls : Value) (d : Option Addr) (pn : List (Addr × Obj)), Zc cls d oe → (∃ vs, oe.data = .fields vs) →
      PSs ((kCx X g cdg s H).suite a ((a, oe) :: pn)) kSuite (tsK X.K a cls d) := fun a oe cls d pn hz hf => by
    refine ⟨fun pins s1 σ H1 D I hh => ?_⟩
    obtain ⟨j, hj, rfl, rfl, hl, h2, hD⟩ := hh
    have C := T.km j hj
    have hIs := call_isE (X := kCx X g cdg s H) (a := a) (pn := pn) C.c hz hf
    refine (show PSs ((kCx X g cdg s H).suite a ((a, oe) :: pn)) kSuite _ from pss_cons (ps_set (i := 1) sc__law_kinds.nd rfl (by first | exact Or.inl rfl | exact Or.inr rfl) (pe_lst (pa_cons (pe_callB hIs (by rfl) T.isinstance (by decide +kernel) (pa_cons (pv 2) (pa_cons (pe_gc T.g_BadMany (by rfl)) pa_nil))) (pa_cons (pe_callB hIs (by rfl) T.isinstance (by decide +kernel) (pa_cons (pv 2) (pa_cons (pe_gc T.g_BadSingers (by rfl)) pa_nil))) (pa_cons (pe_callB hIs (by rfl) T.isinstance (by decide +kernel) (pa_cons (pv 2) (pa_cons (pe_gc T.g_BadSong (by rfl)) pa_nil))) pa_nil)))))
      (pss_cons (ps_set (i := 1) sc__law_kinds.nd rfl (by first | exact Or.inl rfl | exact Or.inr rfl) (pe_op op_cat (pv 1) (pe_lst (pa_cons (pe_callB hIs (by rfl) T.isinstance (by decide +kernel) (pa_cons (pv 2) (pa_cons (pe_gc T.g_BadTale (by rfl)) pa_nil))) (pa_cons (pe_callB hIs (by rfl) T.isinstance (by decide +kernel) (pa_cons (pv 2) (pa_cons (pe_gc T.g_BadSongs (by rfl)) pa_nil))) (pa_cons (pe_callB hIs (by rfl) T.isinstance (by decide +kernel) (pa_cons (pv 2) (pa_cons (pe_gc T.g_BadGap (by rfl)) pa_nil))) pa_nil))))))
      (pss_one (ps_set (i := 1) sc__law_kinds.nd rfl (by first | exact Or.inl rfl | exact Or.inr rfl) (pe_op op_cat (pv 1) (pe_lst (pa_cons (pe_callB hIs (by rfl) T.isinstance (by decide +kernel) (pa_cons (pv 2) (pa_cons (pe_gc T.g_BadOrder (by rfl)) pa_nil))) (pa_cons (pe_callB hIs (by rfl) T.isinstance (by decide +kernel) (pa_cons (pv 2) (pa_cons (pe_gc T.g_TooMany (by rfl)) pa_nil))) (pa_cons (pe_callB hIs (by rfl) T.isinstance (by decide +kernel) (pa_cons (pv 2) (pa_cons (pe_gt (n := "ValueError") T.ValueError (by rfl) (by decide +kernel)) pa_nil))) pa_nil))))))))).run pins s1 σ H1 D I ?_
    have h2' : ∀ x : Option V, (σ.set 1 x)[2]? = some (some (.ref a)) := fun x => by rw [List.getElem?_set_ne (by decide)]; exact h2
    have h1' : ∀ x : V, (σ.set 1 (some x))[1]? = some (some x) := fun x => by rw [List.getElem?_set_self (by omega)]
    have rr : ∀ (c : Addr) (u : Value), RelV (.ref c) u → u = .ref c := fun c u r => r
    have rt : ∀ (n : String) (u : Value), RelV (.ty n) u → u = .type n := fun n u r => r
    refine ⟨_, h2, _, _, _, rfl, rr _, C.j 0 (by decide), _, h2, _, _, _, rfl, rr _, C.j 1 (by decide), _, h2, _, _, _, rfl, rr _, C.j 2 (by decide), by show 3 ≤ sizeLine; decide, fun p1 n1 => ?_⟩
    refine to_new n1 fun H2 s2 hp1 => ?_
    refine ⟨_, h1' _, _, h2' _, _, _, _, rfl, rr _, C.j 3 (by decide), _, h2' _, _, _, _, rfl, rr _, C.j 4 (by decide), _, h2' _, _, _, _, rfl, rr _, C.j 5 (by decide), by show 3 ≤ sizeLine; decide, fun p2 n2 => ?_⟩
    refine to_new n2 fun H3 s3 hp2 => ?_
    refine ⟨_, _, _, _, rfl, rfl, s3 _ _ hp1, hp2, by show 3 + 3 ≤ sizeLine; decide, fun p3 n3 => ?_⟩
    refine to_new n3 fun H4 s4 hp3 => ?_
    have h1'' : ∀ x y : V, ((σ.set 1 (some x)).set 1 (some y))[1]? = some (some y) := fun x y => by rw [set_set1]; exact h1' y
    have h2'' : ∀ x y : V, ((σ.set 1 (some x)).set 1 (some y))[2]? = some (some (.ref a)) := fun x y => by rw [set_set1]; exact h2' _
    refine ⟨_, h1'' _ _, _, h2'' _ _, _, _, _, rfl, rr _, C.j 6 (by decide), _, h2'' _ _, _, _, _, rfl, rr _, C.j 7 (by decide), _, h2'' _ _, _, _, _, rfl, rt _, C.v, by show 3 ≤ sizeLine; decide, fun p4 n4 => ?_⟩
    refine to_new n4 fun H5 s5 hp4 => ?_
    refine ⟨_, _, _, _, rfl, rfl, s5 _ _ hp3, hp4, by show 6 + 3 ≤ sizeLine; decide, fun p5 n5 => ?_⟩
    refine to_new n5 fun H6 s6 hp5 => ?_
    show D.nx (((σ.set 1 (some (.ref p1))).set 1 (some (.ref p3))).set 1 (some (.ref p5))) H6
    rw [set_set1, set_set1]
    exact hD p5 H6 ((((s2.trans s3).trans s4).trans s5).trans s6) hp5
  have hgl : Gl (kCx X g cdg s H) "TurnError" := by rfl
  refine ⟨_, pss_cons (ps_set (i := 1) sc__law_kinds.nd rfl (by first | exact Or.inl rfl | exact Or.inr rfl) (pe_lst pa_nil)) (pss_cons (ps_try_as (X := (kCx X g cdg s H)) (c := .ref (He.ga X.K "TurnError")) (i := 2)
      (tb := fun W D σ H => ∃ Ech : XK, (∀ cls d σ' H', σ'.length = 3 → Ech cls d H' → W cls d σ' H') ∧ σ[0]? = some (some (.ref f)) ∧ H c' = some (LamX.CodeO c' q) ∧ ∀ Q', tl Ech H Q')
      rfl rfl sc__law_kinds.nd rfl rfl ⟨hgl, by decide, .inl T.g_TurnError⟩ L2.takes0 (fun W pn xe tk _ => ?_) hsu) (pss_one (ps_ret (pv 1)))), ?_⟩
  · refine ⟨fun pins s' σ H' D I h' => ?_⟩
    obtain ⟨Ech, hW, h1, h2, h3⟩ := h'
    have hp := fun p1 p2 => act (fun cls d σ H => σ.length = 3 → W cls d σ H) pn xe Ech p1 p2 (takes_len tk) (fun cls d σ' H' e hl => hW cls d σ' H' hl e)
    exact (pss_one (ps_expr (hp _ _))).run pins s' σ H' D I ⟨h1, h2, h3 _⟩
  · refine ⟨Nat.zero_le _, fun p0 n0 => ?_⟩
    refine to_new n0 fun H1 s1 hp0 => ?_
    refine ⟨fun cls d H' => cls = .ref (He.ga X.K (cn i)) ∧ d = none ∧ ∀ p H'', Same H' H'' → H'' p = some (.lst (due i)) → Q (.ref p) H'', ?_, rfl, s1 _ _ hc, fun Q' => h H1 s1 Q'⟩
    rintro cls d σ' H' hl ⟨rfl, rfl, hq⟩
    refine ⟨true, (T.km i hi).m, fun _ a na => ?_, fun z => by cases z⟩
    refine ⟨i, hi, rfl, rfl, by simpa using hl, by rw [List.getElem?_set_self (by omega)], fun p H'' s'' hp => ?_⟩
    refine ⟨_, ?_, hq p H'' s'' hp⟩
    rw [List.getElem?_set_ne (by decide), List.getElem?_set_self (by simp; omega)]
/-- _law_kinds(lambda: body), refused as i tells -/
def tKinds (K : PySem.W.Frag) (Tl : List (Addr × Str)) (i : Nat) (t : XK → TE) : TE := fun σ H Q => LamX.Tabs Tl H ∧ ∀ H2, LamX.ExtN H H2 → LamX.Tabs Tl H2 → ∀ Q',
  t (fun cls d H' => cls = .ref (He.ga K (cn i)) ∧ d = none ∧ ∀ p H'', Same H' H'' → H'' p = some (.lst (due i)) → Q (.ref p) H'') σ H2 Q'
theorem pe_kinds {X : Cx} {i k : Nat} {d : Str} {params : Arguments} {body : Expr} {scope : Scope} {t : XK → TE} {p lpos pos : Pos} (hi : i < 8) (T : Tx X.K X.mg) (L : LamT X.K X.mg X.base (TLof X.K tf) d) (hq : X.env.qual = d ++ ".<locals>.") (hcode : X.env.code = .ref (He.cT X.K (d, none)).1)
    (hr : Room (k + 2) X.A) (hg : Gl X "_law_kinds") (LS : LamX.LamS X.env.scope scope) (hdef : defaultsOf params X.env = ([], []))
    (hbind : ∀ (q : Str) (cl : List (Str × Addr)) (pm cv ctv : Value), bindArgs (PySem.W.kla_fn "<lambda>" q params body scope cl pm cv ctv) ⟨[], []⟩ = pure [])
    (hbody : ∀ (A : Around) (outer : List Env) (s : Shared) (H : Hp) (E : XK) (f c' : Addr), Room k (A.deeper (LamX.lamEnv X scope s.heap.objs.size f c')) → PE (LamX.lamCx X A outer s H E scope f c') body (t E)) :
    PE X (.Call (.Name "_law_kinds" p) [.Lambda params body scope lpos] [] pos) (tKinds X.K (TLof X.K tf) i t) := by
  obtain ⟨fd, F⟩ := T.d__law_kinds
  have hbd : Binds X.K fd ["_law_ask"] [] := F.bindsN fun _ _ _ _ _ _ us hl => match us, hl with | [_], _ => rfl
  have kp := F.kp
  obtain ⟨oc, od, dV, kV, doc, pm, an, cdv, ct, osl, rfl, lk, hcd, _, _⟩ := F.ex
  have R := LamX.pe_lamcall (X := X) (T := TLof X.K tf) (TT := TTk X.K i) (x := "_law_kinds") (a := "_law_ask") (p := p) (lpos := lpos) (pos := pos) (t := t) hg T.g__law_kinds kp lk hcd hbd sc__law_kinds rfl (.inl rfl) (gives_kinds (q := X.env.qual ++ "<lambda>") hi T) L.tb hcode (by rw [hq]; exact L.mem) (fun p hp e => by rw [hq]; exact L.uq p hp e) hr LS hdef hbind hbody
  refine ⟨fun pins s σ H Q I h => R.run pins s σ H Q I ⟨h.1, fun H1 e1 t1 H2 s2 Q' => h.2 H2 (e1.trans (LamX.ExtN.of s2)) (t1.ext s2) Q'⟩⟩
theorem sc__law_due_of : FnScope ["_law_at", "_law_one"] ["_law_at"] (defScope s__law_due_of) := ⟨rfl, rfl, rfl, by decide +kernel, rfl, by decide +kernel, by decide +kernel⟩
def sp_due_of : Sp := fun vs H Q _ => ∃ i : Nat, vs = [.int i] ∧ i < 8 ∧ ∀ p H', H p = none → Same H H' → H' p = some (.lst (due i)) → Q (.ref p) H'
theorem fn__law_due_of (T : Tx K mg) : Fn P w K mg base "_law_due_of" 1 sp_due_of := by
  obtain ⟨fd, F⟩ := T.d__law_due_of
  refine ⟨_, fd, _, F.ok (CX := CX0) sc__law_due_of (fun vs H Q E h => ?_) (fun cdv A outer s H vs Q E hr h => ?_), T.g__law_due_of, F.kp, F.bindsN fun _ _ _ _ _ _ us hl => match us, hl with | [_], _ => rfl⟩
  · obtain ⟨i, rfl, _⟩ := h; rfl
  · obtain ⟨i, rfl, hi, q⟩ := h
    refine ⟨_, PSs.nox (pss_one (ps_ret (pe_op op_cat (pe_lc (own := [("_law_one", 1)]) (g := (gName 1)) (tt := tYes) (by rfl) sc__law_due_of.nd (pi_range1 (by rfl) T.range (pa_cons pe_int pa_nil)) (blkOk_by (by kernel_rfl)) (fun _ _ _ _ _ => (pg_name (i := 1) sc__law_due_of.nd rfl (by first | exact Or.inl rfl | exact Or.inr rfl))) (fun _ _ _ _ _ => pts_nil) (fun _ _ _ _ _ => (pe_cmpR op_eq (pv 0) (pv 1) (nomark _)))) (pe_lst (pa_cons pe_bl pa_nil))))), ?_⟩
    refine ⟨8, rfl, by decide, by decide, fun D nD => lc_pure walk_range (fun _ _ _ h => h) trivial (fun j => some (.bl (i == j))) nD (by decide) ?_ ?_⟩
    · rintro j v H1 H2 hj s1 ⟨rfl, rfl⟩ k kn hk _
      refine ⟨rfl, yes_of ⟨_, rfl, _, rfl, rfl, ?_⟩⟩
      show k (V.bl (decide (V.int (i : Int) = V.int (0 + (j : Int))))) H2
      have e : decide (V.int (i : Int) = V.int (0 + (j : Int))) = (i == j) := by
        by_cases h : i = j
        · subst h; simp
        · rw [beq_eq_false_iff_ne.mpr h]; exact decide_eq_false (fun z => h (by injection z with z; omega))
      rw [e]
      exact hk _ _ rfl (Same.refl _)
    · intro H1 s1 hD
      refine ⟨by show 1 ≤ sizeLine; decide, fun p np => ?_⟩
      refine to_new np fun H2 s2 hp => ?_
      refine ⟨_, _, _, _, rfl, rfl, s2 _ _ hD, hp, by show 8 + 1 ≤ sizeLine; decide, fun p2 np2 => ?_⟩
      refine to_new np2 fun H3 s3 hp2 => ?_
      exact q p2 H3 (s1.free (s2.free np2)) ((s1.trans s2).trans s3) hp2
theorem dp_bls {K : PySem.W.Frag} {H : Hp} : ∀ (bs : List Bool), DpAll K H (bs.map V.bl) (bs.map PyData.bool)
  | [] => .nil
  | b :: r => .cons (.bl b) (dp_bls r)
def dueB (i : Nat) : List Bool := [i == 0, i == 1, i == 2, i == 3, i == 4, i == 5, i == 6, i == 7, true]
theorem dp_due {K : PySem.W.Frag} {H : Hp} {p : Addr} {i : Nat} (h : H p = some (.lst (due i))) : Dp K H (.ref p) (.list ((dueB i).map PyData.bool)) := .lst (SqL.of h) (dp_bls (dueB i))
theorem due_eqv (i : Nat) (hi : i < 8) : PyData.eqv (.list ((dueB i).map PyData.bool)) (.list ((dueB i).map PyData.bool)) = true ∧ SeqAt.shaped (.list ((dueB i).map PyData.bool)) = true := by
  have : i = 0 ∨ i = 1 ∨ i = 2 ∨ i = 3 ∨ i = 4 ∨ i = 5 ∨ i = 6 ∨ i = 7 := by omega
  rcases this with rfl | rfl | rfl | rfl | rfl | rfl | rfl | rfl <;> exact ⟨by decide +kernel, by decide +kernel⟩
/-- if _law_kinds(lambda: ..) != _law_due_of(i): return False -/
def tKin (K : PySem.W.Frag) (Tl : List (Addr × Str)) (i : Nat) (t : XK → TE) : TS := fun D σ H => LamX.Tabs Tl H ∧ ∀ H2, LamX.ExtN H H2 → LamX.Tabs Tl H2 → ∀ (E : XK) (Q' : VK),
  (∀ H', (∀ H'', Same H' H'' → D.nx σ H'') → E (.ref (He.ga K (cn i))) none H') → t E σ H2 Q'
theorem ps_kin {X : Cx} {st : Stmt} {i : Nat} {Tl : List (Addr × Str)} {t : XK → TE} (hi : i < 8)
    (h : PS X st (tIfS (tTest (tOp (rNeD X.K) (tKinds X.K Tl i t) (tCall sp_due_of [] E0 (tCons (tC (.int i)) tNil)))) (tRet (tC (.bl false))) tNext)) : PS X st (tKin X.K Tl i t) := by
  refine ⟨fun pins s σ H D I hw => h.run pins s σ H D I ⟨hw.1, fun H2 e2 t2 Q' => hw.2 H2 e2 t2 _ Q' fun H' hn => ⟨rfl, rfl, fun p H'' s'' hp => ?_⟩⟩⟩
  refine ⟨i, rfl, hi, fun p2 H3 n3 s3 hp2 => ?_⟩
  refine ⟨_, _, dp_due (s3 _ _ hp), dp_due hp2, (due_eqv i hi).2, (due_eqv i hi).2, _, rfl, ?_⟩
  rw [(due_eqv i hi).1]
  exact iteF (hn H3 (s''.trans s3))
end
end Song

/-! ### Ev3: rounds and turns -/
namespace Song
open PySem L2
section
variable {P : Program} {w : World} {K : PySem.W.Frag} {mg : Str → Option Value} {base : Heap}
theorem sc_floor_of : FnScope ["last", "going", "singer"] ["last", "going", "singer"] (defScope s_floor_of) := ⟨rfl, rfl, rfl, by decide +kernel, rfl, by decide +kernel, by decide +kernel⟩
def sp_floor_of (K : PySem.W.Frag) : Sp := fun vs H Q _ => ∃ (a : Addr) (ls : List Int) (g s : Int), vs = [.ref a, .int g, .int s] ∧ SqL K H a (ls.map V.int) ∧ 0 ≤ s ∧ s < (ls.length : Int) ∧ Q (.int (floorOf ls g s)) H
theorem fn_floor_of (T : Tx K mg) : Fn P w K mg base "floor_of" 1 (sp_floor_of K) := by
  obtain ⟨fd, F⟩ := T.d_floor_of
  refine ⟨_, fd, _, F.ok (CX := CX0) sc_floor_of (fun vs H Q E h => ?_) (fun cdv A outer s H vs Q E hr h => ?_), T.g_floor_of, F.kp, F.bindsN fun _ _ _ _ _ _ us hl => match us, hl with | [_, _, _], _ => rfl⟩
  · obtain ⟨a, ls, g, s, rfl, _⟩ := h; rfl
  · obtain ⟨a, ls, g, s, rfl, hs, h0, h1, q⟩ := h
    refine ⟨_, PSs.nox (pss_one (ps_ret (pe_callB (call_max2 (by rfl)) (by rfl) T.max (by decide +kernel) (pa_cons (pv 1) (pa_cons (pe_op op_add (pe_ix (show IxR _ (rIxL K) from ix_list) (pv 0) (pv 2) (fun _ _ => rfl)) pe_int) pa_nil))))), ?_⟩
    refine ⟨_, rfl, _, rfl, _, rfl, a, _, _, _, rfl, rfl, hs, at_int h0 h1, _, _, rfl, rfl, _, _, rfl, ?_⟩
    rw [max_ite]
    exact q
theorem sc_round_for : FnScope ["last", "going", "singers", "singer"] ["last", "going", "singers"] (defScope s_round_for) := ⟨rfl, rfl, rfl, by decide +kernel, rfl, by decide +kernel, by decide +kernel⟩
def sp_round_for (K : PySem.W.Frag) : Sp := fun vs H Q _ => ∃ (a b : Addr) (ls ss : List Int) (g : Int), vs = [.ref a, .int g, .ref b] ∧ SqL K H a (ls.map V.int) ∧ SqL K H b (ss.map V.int) ∧ InB ls.length ss ∧ ss ≠ [] ∧ ss.length ≤ 1000 ∧
  ∀ H', Same H H' → Q (.int (roundFor ls g ss)) H'
theorem fn_round_for (T : Tx K mg) : Fn P w K mg base "round_for" 2 (sp_round_for K) := by
  obtain ⟨fd, F⟩ := T.d_round_for
  refine ⟨_, fd, _, F.ok (CX := CX0) sc_round_for (fun vs H Q E h => ?_) (fun cdv A outer s H vs Q E hr h => ?_), T.g_round_for, F.kp, F.bindsN fun _ _ _ _ _ _ us hl => match us, hl with | [_, _, _], _ => rfl⟩
  · obtain ⟨a, b, ls, ss, g, rfl, _⟩ := h; rfl
  · obtain ⟨a, b, ls, ss, g, rfl, ha, hb, hi, hn, hl, q⟩ := h
    refine ⟨_, PSs.nox (pss_one (ps_ret (pe_callB (show CallR _ _ (rMax K) from cr_max (by rfl)) (by rfl) T.max (by decide +kernel) (pa_cons (pe_lc (own := [("singer", 3)]) (g := (gName 3)) (tt := tYes) (by rfl) sc_round_for.nd (show PI _ _ _ (iList K _) from pi_list (pv 2)) (blkOk_by (by kernel_rfl)) (fun _ _ _ _ _ => (pg_name (i := 3) sc_round_for.nd rfl (by first | exact Or.inl rfl | exact Or.inr rfl))) (fun _ _ _ _ _ => pts_nil) (fun _ _ _ _ _ => (pe_fn (fn_floor_of T) (hr.mono (by first | decide | omega)) (by rfl) (pa_cons (pv 0) (pa_cons (pv 1) (pa_cons (pv 3) pa_nil)))))) pa_nil)))), ?_⟩
    refine ⟨_, rfl, b, rfl, ⟨_, hb⟩, fun D nD => lc_map (fun x => match x with | .int s => .int (floorOf ls g s) | _ => .non) hb nD (by rw [List.length_map]; exact hl) ?_ ?_ gname_mono⟩
    · intro i x H1 hx s1 k hk
      obtain ⟨s, rfl, hs⟩ := int_at hx
      obtain ⟨h0, h1⟩ := hi s (List.mem_of_getElem? hs)
      exact ⟨rfl, _, rfl, _, rfl, _, rfl, a, ls, g, s, rfl, s1.seq ha, h0, h1, hk _ (Same.refl _)⟩
    · intro H1 s1 hD
      rw [List.map_map] at hD
      refine ⟨_, ss.map (floorOf ls g), rfl, SqL.of (by rw [List.map_map]; exact hD), ?_, fun m hm hle => ?_⟩
      · rw [List.length_map]; exact List.length_pos_iff.mpr hn
      · rw [maxL_eq hm hle]
        exact q _ s1
theorem sc_in_turn : FnScope ["rounds", "waits", "number", "song"] ["rounds", "waits"] (defScope s_in_turn) := ⟨rfl, rfl, rfl, by decide +kernel, rfl, by decide +kernel, by decide +kernel⟩
def sp_in_turn (K : PySem.W.Frag) : Sp := fun vs H Q _ => ∃ (a b : Addr) (rs ws : List Int), vs = [.ref a, .ref b] ∧ SqL K H a (rs.map V.int) ∧ SqL K H b (ws.map V.int) ∧ InB rs.length ws ∧ ws.length ≤ 1000 ∧
  ∀ p H', H p = none → Same H H' → H' p = some (.lst ((inTurn rs ws).map V.int)) → Q (.ref p) H'
/-- what a pair of ints stands for -/
def prOf (H : Hp) : V → Int × Int
  | .ref t => match H t with
    | some (.tup [.int i, .int j]) => (i, j)
    | _ => (0, 0)
  | _ => (0, 0)
theorem prOf_at {H : Hp} {t : Addr} {i j : Int} (h : H t = some (.tup [.int i, .int j])) : prOf H (.ref t) = (i, j) := by
  show (match H t with
    | some (.tup [.int i, .int j]) => (i, j)
    | _ => (0, 0)) = (i, j)
  rw [h]
theorem lexB_ltPr {a b : Int × Int} : SrtO.lexB a b = ltPr a b := by
  cases h : ltPr a b with
  | true =>
    rw [SrtO.lexB_iff]
    rw [ltPr_iff] at h
    omega
  | false =>
    rw [SrtO.lexB_no]
    rw [ltPr_false] at h
    omega
theorem srt_pairs {rs ws : List Int} {H : Hp} {ys zs : List V} (hl : ys.length = ws.length)
    (hy : ∀ (i : Nat) y, ys[i]? = some y → ∃ (t : Addr) (s : Int), ws[i]? = some s ∧ y = .ref t ∧ H t = some (.tup [.int (rs.getD s.toNat 0), .int s]))
    (srt : SrtO.Srtd (ltP (prOf H)) zs) (stb : SrtO.Stb (ltP (prOf H)) zs ys) :
    zs.map (fun z => V.int (prOf H z).2) = (inTurn rs ws).map V.int ∧ ∀ z ∈ zs, ∃ (t : Addr) (i j : Int), z = .ref t ∧ H t = some (.tup [.int i, .int j]) ∧ prOf H z = (i, j) := by
  have e1 : ys.map (prOf H) = ws.map fun s => (rs.getD s.toNat 0, s) := by
    have h2 : (ys.map (prOf H)).length = ws.length := by rw [List.length_map]; exact hl
    refine eq_map_of h2 fun i y e => ?_
    rw [List.getElem?_map] at e
    cases q : ys[i]? with
    | none => rw [q] at e; cases e
    | some v =>
      rw [q] at e
      obtain ⟨t, s, h1, rfl, h3⟩ := hy i v q
      refine ⟨s, h1, ?_⟩
      rw [← Option.some.inj e]
      exact prOf_at h3
  have e2 : zs.map (prOf H) = sortP (ws.map fun s => (rs.getD s.toNat 0, s)) := by
    refine sortP_eq (by rw [← e1]; exact stb.perm.map _) ?_
    refine List.pairwise_map.mpr (srt.imp fun {a b} h => ?_)
    rw [← lexB_ltPr]
    exact h
  refine ⟨?_, fun z hz => ?_⟩
  · unfold inTurn
    rw [← e2, List.map_map, List.map_map]
    rfl
  · obtain ⟨i, hi, rfl⟩ := List.mem_iff_getElem.mp (stb.perm.subset hz)
    obtain ⟨t, s, h1, h2, h3⟩ := hy i _ (List.getElem?_eq_getElem hi)
    exact ⟨t, _, _, h2, h3, by rw [h2]; exact prOf_at h3⟩
theorem inTurn_len (rs ws : List Int) : (inTurn rs ws).length = ws.length := (inTurn_perm rs ws).length_eq
theorem fn_in_turn (T : Tx K mg) : Fn P w K mg base "in_turn" 1 (sp_in_turn K) := by
  obtain ⟨fd, F⟩ := T.d_in_turn
  refine ⟨_, fd, _, F.ok (CX := CX0) sc_in_turn (fun vs H Q E h => ?_) (fun cdv A outer s H vs Q E hr h => ?_), T.g_in_turn, F.kp, F.bindsN fun _ _ _ _ _ _ us hl => match us, hl with | [_, _], _ => rfl⟩
  · obtain ⟨a, b, rs, ws, rfl, _⟩ := h; rfl
  · obtain ⟨a, b, rs, ws, rfl, ha, hb, hi, hl, q⟩ := h
    refine ⟨_, PSs.nox (pss_one (ps_ret (pe_lc (own := [("number", 2), ("song", 3)]) (g := (gTup K 2 (gCons (gName 2) (gCons (gName 3) gNil)))) (tt := tYes) (by rfl) sc_in_turn.nd (show PI _ _ _ (iList K _) from pi_list (pe_callB (show CallR _ _ (rSortedPO K) from cr_sortedPO) (by rfl) T.sorted (by decide +kernel) (pa_cons (pe_lc (own := [("song", 3)]) (g := (gName 3)) (tt := tYes) (by rfl) sc_in_turn.nd (show PI _ _ _ (iList K _) from pi_list (pv 1)) (blkOk_by (by kernel_rfl)) (fun _ _ _ _ _ => (pg_name (i := 3) sc_in_turn.nd rfl (by first | exact Or.inl rfl | exact Or.inr rfl))) (fun _ _ _ _ _ => pts_nil) (fun _ _ _ _ _ => (pe_tup (pa_cons (pe_ix (show IxR _ (rIxL K) from ix_list) (pv 0) (pv 3) (fun _ _ => rfl)) (pa_cons (pv 3) pa_nil))))) pa_nil))) (blkOk_by (by kernel_rfl)) (fun _ _ _ _ _ => (show PG _ _ (gTup K _ _) from pg_tup rfl (pgs_cons (pg_name (i := 2) sc_in_turn.nd rfl (by first | exact Or.inl rfl | exact Or.inr rfl)) (pgs_cons (pg_name (i := 3) sc_in_turn.nd rfl (by first | exact Or.inl rfl | exact Or.inr rfl)) pgs_nil)))) (fun _ _ _ _ _ => pts_nil) (fun _ _ _ _ _ => (pv 3))))), ?_⟩
    refine ⟨_, rfl, b, rfl, ⟨_, hb⟩, fun D nD => lc_all walk_list sqL_mono hb (fun i H y => ∃ (t : Addr) (s : Int), ws[i]? = some s ∧ y = .ref t ∧ H t = some (.tup [.int (rs.getD s.toNat 0), .int s])) ?_ nD (by rw [List.length_map]; exact hl) ?_ ?_ gname_mono⟩
    · rintro i H1 H2 y s1 ⟨t, s, h1, h2, h3⟩
      exact ⟨t, s, h1, h2, s1 _ _ h3⟩
    · rintro i x H1 H2 acc hi1 s1 hD ⟨rfl, hx⟩ k hk
      obtain ⟨s, rfl, hs⟩ := int_at hx
      obtain ⟨h0, h1⟩ := hi s (List.mem_of_getElem? hs)
      refine ⟨rfl, _, rfl, _, rfl, a, _, _, _, rfl, rfl, s1.seq ha, at_int h0 h1, _, rfl, by show 2 ≤ sizeLine; decide, fun t nt => ?_⟩
      refine hk _ _ (Same.new nt) ⟨t, s, hs, rfl, ?_⟩
      rw [off_out (by simp; exact (ne_of_none hD nt).symm)]
      exact upd_same
    · intro ys H1 s1 hD hly hy
      have hy' : ∀ x ∈ ys, ∃ t, x = V.ref t ∧ H1 t = some (.tup [.int (prOf H1 x).1, .int (prOf H1 x).2]) := fun x hx => by
        obtain ⟨i, hi, rfl⟩ := List.mem_iff_getElem.mp hx
        obtain ⟨t, s, h1, h2, h3⟩ := hy i _ (List.getElem?_eq_getElem hi)
        have h4 := (off_some h3).2
        refine ⟨t, h2, ?_⟩
        rw [h2, prOf_at h4]
        exact h4
      refine ⟨D, ys, prOf H1, rfl, SqL.of hD, hy', fun zs p srt stb np => ?_⟩
      have hly : ys.length = ws.length := by rw [hly, List.length_map]
      obtain ⟨hz1, hz2⟩ := srt_pairs (rs := rs) (ws := ws) hly (fun i y e => by
        obtain ⟨t, s, h1, h2, h3⟩ := hy i y e
        exact ⟨t, s, h1, h2, (off_some h3).2⟩) srt stb
      refine to_new np fun H2 s2 hp => ?_
      refine ⟨p, rfl, ⟨_, SqL.of hp⟩, fun D2 nD2 => lc_map (fun z => V.int (prOf H1 z).2) (SqL.of hp) nD2 ?_ ?_ ?_ gtup_mono⟩
      · rw [stb.perm.length_eq]; omega
      · intro i z H3 hz s3 k hk
        obtain ⟨t, u, v, rfl, ht, ep⟩ := hz2 z (List.mem_of_getElem? hz)
        have hk2 := hk H3 (Same.refl _)
        rw [ep] at hk2
        exact ⟨t, _, rfl, SqT.of (s3 _ _ (s2 _ _ ht)), rfl, _, _, rfl, _, _, rfl, rfl, rfl, _, rfl, hk2⟩
      · intro H3 s3 hD3
        rw [hz1] at hD3
        exact q D2 H3 (s1.free (s2.free nD2)) ((s1.trans s2).trans s3) hD3
end
end Song

/-! ### Pl2: an evening's state and its parts, plainly -/
namespace Song
open PySem L2
inductive Part where
  | wish (ss : List Int) (n r : Int)
  | sing (o : Option Int)
  | out (n : Int)
  deriving DecidableEq
structure EvS where
  last : List Int
  going : Int
  rounds : List Int
  waiting : List Int
  tale : List Part
def evNew (many : Int) : EvS := ⟨List.replicate many.toNat 0, 1, [], [], []⟩
def setAll (last : List Int) (ss : List Int) (n : Int) : List Int := ss.foldl (fun l s => l.set s.toNat n) last
theorem setAll_len : ∀ (ss last : List Int) (n : Int), (setAll last ss n).length = last.length
  | [], _, _ => rfl
  | s :: r, last, n => by
    show (setAll (last.set s.toNat n) r n).length = last.length
    rw [setAll_len r, List.length_set]
theorem setAll_snoc (last ss : List Int) (s n : Int) : setAll last (ss ++ [s]) n = (setAll last ss n).set s.toNat n := by
  unfold setAll
  rw [List.foldl_append]
  rfl
def EvS.num (st : EvS) (ss : List Int) : Int := roundFor st.last st.going ss
def EvS.wish (st : EvS) (ss : List Int) : EvS :=
  ⟨setAll st.last ss (st.num ss), st.going, st.rounds ++ [st.num ss], st.waiting ++ [(st.rounds.length : Int)], st.tale ++ [.wish ss st.rounds.length (st.num ss)]⟩
def EvS.queue (st : EvS) : List Int := inTurn st.rounds st.waiting
def EvS.next (st : EvS) : Option Int := st.queue.head?
def EvS.sing (st : EvS) : EvS := match st.next with
  | none => { st with tale := st.tale ++ [.sing none] }
  | some s => { st with waiting := st.waiting.erase s, going := st.rounds.getD s.toNat 0, tale := st.tale ++ [.sing (some s)] }
def EvS.out (st : EvS) (n : Int) : EvS := { st with waiting := st.waiting.erase n, tale := st.tale ++ [.out n] }
/-- what holds of every evening's state -/
structure EvOk (st : EvS) : Prop where
  one : 1 ≤ st.last.length
  six : st.last.length ≤ 6
  inb : InB st.rounds.length st.waiting
  nd : st.waiting.Nodup
  r24 : st.rounds.length ≤ 24
  tw : ∀ ss n r, Part.wish ss n r ∈ st.tale → ss.length ≤ 3
theorem EvOk.w24 {st : EvS} (h : EvOk st) : st.waiting.length ≤ 24 := Nat.le_trans (nodup_len h.inb h.nd) h.r24
theorem evNew_ok {many : Int} (h1 : 1 ≤ many) (h6 : many ≤ 6) : EvOk (evNew many) :=
  ⟨by show 1 ≤ (List.replicate _ _).length; rw [List.length_replicate]; omega, by show (List.replicate _ _).length ≤ 6; rw [List.length_replicate]; omega,
   (fun s h => by cases h), List.nodup_nil, by show 0 ≤ 24; omega, (fun _ _ _ h => by cases h)⟩
theorem EvOk.wish {st : EvS} {ss : List Int} (h : EvOk st) (hr : st.rounds.length < 24) (h3 : ss.length ≤ 3) : EvOk (st.wish ss) where
  one := by show 1 ≤ (setAll _ _ _).length; rw [setAll_len]; exact h.one
  six := by show (setAll _ _ _).length ≤ 6; rw [setAll_len]; exact h.six
  inb := fun s hs => by
    show 0 ≤ s ∧ s < (((st.rounds ++ [_]).length : Nat) : Int)
    rw [List.length_append, List.length_singleton]
    rcases List.mem_append.mp hs with q | q
    · have := h.inb s q; omega
    · have := List.mem_singleton.mp q; omega
  nd := by
    show (st.waiting ++ [_]).Nodup
    refine List.nodup_append.mpr ⟨h.nd, by simp, fun a ha b hb e => ?_⟩
    have := List.mem_singleton.mp hb
    have := h.inb a ha
    omega
  r24 := by show (st.rounds ++ [_]).length ≤ 24; rw [List.length_append, List.length_singleton]; omega
  tw := fun ss' n r hm => by
    rcases List.mem_append.mp hm with q | q
    · exact h.tw ss' n r q
    · have := List.mem_singleton.mp q
      injection this with e _ _
      rw [e]; exact h3
theorem EvS.next_mem {st : EvS} {s : Int} (h : st.next = some s) : s ∈ st.waiting := (inTurn_perm _ _).subset (List.mem_of_mem_head? (by unfold next queue at h; rw [h]; rfl))
theorem EvS.next_none {st : EvS} (h : st.next = none) : st.waiting = [] := by
  unfold next queue at h
  have e := List.head?_eq_none_iff.mp h
  have l := inTurn_len st.rounds st.waiting
  rw [e] at l
  exact List.eq_nil_of_length_eq_zero l.symm
theorem EvOk.sing {st : EvS} (h : EvOk st) : EvOk st.sing := by
  unfold EvS.sing
  cases e : st.next with
  | none => exact ⟨h.one, h.six, h.inb, h.nd, h.r24, fun ss n r hm => h.tw ss n r (by simpa using hm)⟩
  | some s => exact ⟨h.one, h.six, fun x hx => h.inb x (List.mem_of_mem_erase hx), h.nd.erase _, h.r24, fun ss n r hm => h.tw ss n r (by simpa using hm)⟩
theorem EvOk.out {st : EvS} (h : EvOk st) (n : Int) : EvOk (st.out n) := ⟨h.one, h.six, fun x hx => h.inb x (List.mem_of_mem_erase hx), h.nd.erase _, h.r24, fun ss n r hm => h.tw ss n r (by simpa [EvS.out] using hm)⟩
theorem erase_at : ∀ {ns : List Int} {k : Int}, k ∈ ns → ∃ j : Nat, ns[j]? = some k ∧ (∀ m : Nat, m < j → ns[m]? ≠ some k) ∧ ns.eraseIdx j = ns.erase k
  | n :: r, k, h => by
    by_cases e : n = k
    · subst e
      exact ⟨0, rfl, fun m hm => by omega, by simp⟩
    · obtain ⟨j, h1, h2, h3⟩ := erase_at (ns := r) (k := k) ((List.mem_cons.mp h).resolve_left (fun z => e z.symm))
      refine ⟨j + 1, by simpa using h1, fun m hm => ?_, ?_⟩
      · cases m with
        | zero => simpa using e
        | succ m => simpa using h2 m (by omega)
      · rw [List.eraseIdx_cons_succ, h3, List.erase_cons_tail (by simpa using e)]
/-! #### the parts as data -/
def Part.data : Part → PyData
  | .wish ss n r => .tuple [.str "wish", .list (ss.map PyData.int), .int n, .int r]
  | .sing o => .tuple [.str "sing", optD o]
  | .out n => .tuple [.str "out", .int n]
/-- a part laid in the heap -/
def PartAt (H : Hp) : V → Part → Prop
  | .ref t, .wish ss n r => ∃ b, H t = some (.tup [.str "wish", .ref b, .int n, .int r]) ∧ H b = some (.lst (ss.map V.int))
  | .ref t, .sing o => H t = some (.tup [.str "sing", optV o])
  | .ref t, .out n => H t = some (.tup [.str "out", .int n])
  | _, _ => False
def Parts (H : Hp) : List V → List Part → Prop
  | [], [] => True
  | v :: vs, p :: ps => PartAt H v p ∧ Parts H vs ps
  | _, _ => False
theorem PartAt.mono {H H' : Hp} (s : Same H H') {v : V} {p : Part} (h : PartAt H v p) : PartAt H' v p := by
  cases v with
  | ref t =>
    cases p with
    | wish ss n r =>
      obtain ⟨b, h1, h2⟩ := h
      exact ⟨b, s _ _ h1, s _ _ h2⟩
    | sing o => exact s _ _ h
    | out n => exact s _ _ h
  | _ => exact h.elim
theorem Parts.mono {H H' : Hp} (s : Same H H') : ∀ {vs : List V} {ps : List Part}, Parts H vs ps → Parts H' vs ps
  | [], [], _ => trivial
  | _ :: _, _ :: _, h => ⟨h.1.mono s, Parts.mono s h.2⟩
  | [], _ :: _, h => h.elim
  | _ :: _, [], h => h.elim
theorem Parts.snoc {H : Hp} {v : V} {p : Part} (q : PartAt H v p) : ∀ {vs : List V} {ps : List Part}, Parts H vs ps → Parts H (vs ++ [v]) (ps ++ [p])
  | [], [], _ => ⟨q, trivial⟩
  | _ :: _, _ :: _, h => ⟨h.1, Parts.snoc q h.2⟩
  | [], _ :: _, h => h.elim
  | _ :: _, [], h => h.elim
theorem Parts.len {H : Hp} : ∀ {vs : List V} {ps : List Part}, Parts H vs ps → vs.length = ps.length
  | [], [], _ => rfl
  | _ :: _, _ :: _, h => by simp [Parts.len h.2]
  | [], _ :: _, h => h.elim
  | _ :: _, [], h => h.elim
theorem Parts.get {H : Hp} : ∀ {vs : List V} {ps : List Part} {i : Nat} {v : V}, Parts H vs ps → vs[i]? = some v → ∃ p, ps[i]? = some p ∧ PartAt H v p
  | [], [], _, _, _, e => by simp at e
  | _ :: _, _ :: _, 0, _, h, e => by
    simp at e; subst e; exact ⟨_, rfl, h.1⟩
  | _ :: _, _ :: _, i + 1, v, h, e => by
    obtain ⟨p, h1, h2⟩ := Parts.get (i := i) (v := v) h.2 (by simpa using e)
    exact ⟨p, by simpa using h1, h2⟩
  | [], _ :: _, _, _, h, _ => h.elim
  | _ :: _, [], _, _, h, _ => h.elim
theorem Parts.of {H : Hp} : ∀ {vs : List V} {ps : List Part}, vs.length = ps.length → (∀ (i : Nat) v, vs[i]? = some v → ∃ p, ps[i]? = some p ∧ PartAt H v p) → Parts H vs ps
  | [], [], _, _ => trivial
  | v :: vs, p :: ps, hl, h => by
    obtain ⟨p', e, q⟩ := h 0 v rfl
    cases e
    exact ⟨q, Parts.of (by simpa using hl) fun i v' e => h (i + 1) v' (by simpa using e)⟩
  | [], _ :: _, h, _ => by simp at h
  | _ :: _, [], h, _ => by simp at h
theorem PartAt.dp {K : PySem.W.Frag} {H : Hp} {v : V} {p : Part} (h : PartAt H v p) : Dp K H v p.data := by
  cases v with
  | ref t =>
    cases p with
    | wish ss n r =>
      obtain ⟨b, h1, h2⟩ := h
      exact .tup (SqT.of h1) (.cons (.str _) (.cons (dp_ints (SqL.of h2)) (.cons (.int _) (.cons (.int _) .nil))))
    | sing o =>
      refine .tup (SqT.of h) (.cons (.str _) (.cons ?_ .nil))
      cases o with
      | none => exact .non
      | some n => exact .int n
    | out n => exact .tup (SqT.of h) (.cons (.str _) (.cons (.int _) .nil))
  | _ => exact h.elim
theorem Parts.dp {K : PySem.W.Frag} {H : Hp} : ∀ {vs : List V} {ps : List Part}, Parts H vs ps → DpAll K H vs (ps.map Part.data)
  | [], [], _ => .nil
  | _ :: _, _ :: _, h => .cons h.1.dp (Parts.dp h.2)
  | [], _ :: _, h => h.elim
  | _ :: _, [], h => h.elim
/-! #### shapes -/
theorem shp_part (p : Part) : Shp 3 p.data := by
  cases p with
  | wish ss n r =>
    refine shp_tuple fun x hx => ?_
    simp only [List.mem_cons, List.not_mem_nil, or_false] at hx
    rcases hx with rfl | rfl | rfl | rfl
    · exact shp_word (by decide +kernel)
    · exact shp_ints ss
    · exact shp_int _
    · exact shp_int _
  | sing o =>
    refine shp_tuple fun x hx => ?_
    simp only [List.mem_cons, List.not_mem_nil, or_false] at hx
    rcases hx with rfl | rfl
    · exact shp_word (by decide +kernel)
    · exact (shp_optD o).mono (by decide)
  | out n =>
    refine shp_tuple fun x hx => ?_
    simp only [List.mem_cons, List.not_mem_nil, or_false] at hx
    rcases hx with rfl | rfl
    · exact shp_word (by decide +kernel)
    · exact shp_int _
theorem shp_tale (ps : List Part) : Shp 4 (.list (ps.map Part.data)) := shp_list fun x hx => by
  obtain ⟨p, _, rfl⟩ := List.mem_map.mp hx
  exact shp_part p
end Song

/-! ### Ev4: an evening in the heap, and its methods -/
namespace Song
open PySem L2
/-- where an evening's lists stand -/
structure Ad where
  la : Addr
  ro : Addr
  wa : Addr
  ca : Addr
def own (p : Addr) (A : Ad) : List Addr := [p, A.la, A.ro, A.wa, A.ca]
def evF (A : Ad) (g : Int) : List (Str × V) := [("last", .ref A.la), ("going", .int g), ("rounds", .ref A.ro), ("waiting", .ref A.wa), ("came", .ref A.ca)]
theorem evF_last (A : Ad) (g : Int) : (evF A g).lookup ("last" : Str) = some (.ref A.la) := by kernel_rfl
theorem evF_going (A : Ad) (g : Int) : (evF A g).lookup ("going" : Str) = some (.int g) := by kernel_rfl
theorem evF_rounds (A : Ad) (g : Int) : (evF A g).lookup ("rounds" : Str) = some (.ref A.ro) := by kernel_rfl
theorem evF_waiting (A : Ad) (g : Int) : (evF A g).lookup ("waiting" : Str) = some (.ref A.wa) := by kernel_rfl
theorem evF_came (A : Ad) (g : Int) : (evF A g).lookup ("came" : Str) = some (.ref A.ca) := by kernel_rfl
theorem evF_put (A : Ad) (g g' : Int) : putF "going" (.int g') (evF A g) = evF A g' := by kernel_rfl
theorem evF_no (A : Ad) (g : Int) {m : Str} (h : m ∉ (["last", "going", "rounds", "waiting", "came"] : List Str)) : (evF A g).lookup m = none := by
  simp only [List.mem_cons, List.not_mem_nil, or_false, not_or] at h
  obtain ⟨h1, h2, h3, h4, h5⟩ := h
  unfold evF
  have f : ∀ {x : Str}, ¬ m = x → (m == x) = false := fun h => beq_eq_false_iff_ne.mpr h
  simp only [List.lookup, f h1, f h2, f h3, f h4, f h5]
structure Cells (C : Addr) (H : Hp) (p : Addr) (A : Ad) (last : List Int) (going : Int) (rounds waiting : List Int) (cs : List V) : Prop where
  pp : ∃ dx, H p = some (.ins C dx (evF A going))
  la : H A.la = some (.lst (last.map V.int))
  ro : H A.ro = some (.lst (rounds.map V.int))
  wa : H A.wa = some (.lst (waiting.map V.int))
  ca : H A.ca = some (.lst cs)
  nd : (own p A).Nodup
section
variable {C : Addr} {H H' : Hp} {p : Addr} {A : Ad} {last : List Int} {going : Int} {rounds waiting : List Int} {cs : List V}
theorem Cells.mono (s : Same H H') (c : Cells C H p A last going rounds waiting cs) : Cells C H' p A last going rounds waiting cs := by
  obtain ⟨⟨dx, h1⟩, h2, h3, h4, h5, nd⟩ := c
  exact ⟨⟨dx, s _ _ h1⟩, s _ _ h2, s _ _ h3, s _ _ h4, s _ _ h5, nd⟩
theorem Cells.ne (c : Cells C H p A last going rounds waiting cs) : p ≠ A.la ∧ p ≠ A.ro ∧ p ≠ A.wa ∧ p ≠ A.ca ∧ A.la ≠ A.ro ∧ A.la ≠ A.wa ∧ A.la ≠ A.ca ∧ A.ro ≠ A.wa ∧ A.ro ≠ A.ca ∧ A.wa ≠ A.ca := by
  have h := c.nd
  unfold own at h
  simp only [List.nodup_cons, List.mem_cons, List.not_mem_nil, or_false, not_or] at h
  obtain ⟨⟨a1, a2, a3, a4⟩, ⟨b1, b2, b3⟩, ⟨c1, c2⟩, d1, _⟩ := h
  exact ⟨a1, a2, a3, a4, b1, b2, b3, c1, c2, d1⟩
theorem Cells.putLa (c : Cells C H p A last going rounds waiting cs) (l : List Int) : Cells C (upd H A.la (.lst (l.map V.int))) p A l going rounds waiting cs := by
  obtain ⟨a1, a2, a3, a4, b1, b2, b3, c1, c2, d1⟩ := c.ne
  obtain ⟨⟨dx, h1⟩, h2, h3, h4, h5, nd⟩ := c
  exact ⟨⟨dx, by rw [upd_ne a1]; exact h1⟩, upd_same, by rw [upd_ne b1.symm]; exact h3, by rw [upd_ne b2.symm]; exact h4, by rw [upd_ne b3.symm]; exact h5, nd⟩
theorem Cells.putRo (c : Cells C H p A last going rounds waiting cs) (l : List Int) : Cells C (upd H A.ro (.lst (l.map V.int))) p A last going l waiting cs := by
  obtain ⟨a1, a2, a3, a4, b1, b2, b3, c1, c2, d1⟩ := c.ne
  obtain ⟨⟨dx, h1⟩, h2, h3, h4, h5, nd⟩ := c
  exact ⟨⟨dx, by rw [upd_ne a2]; exact h1⟩, by rw [upd_ne b1]; exact h2, upd_same, by rw [upd_ne c1.symm]; exact h4, by rw [upd_ne c2.symm]; exact h5, nd⟩
theorem Cells.putWa (c : Cells C H p A last going rounds waiting cs) (l : List Int) : Cells C (upd H A.wa (.lst (l.map V.int))) p A last going rounds l cs := by
  obtain ⟨a1, a2, a3, a4, b1, b2, b3, c1, c2, d1⟩ := c.ne
  obtain ⟨⟨dx, h1⟩, h2, h3, h4, h5, nd⟩ := c
  exact ⟨⟨dx, by rw [upd_ne a3]; exact h1⟩, by rw [upd_ne b2]; exact h2, by rw [upd_ne c1]; exact h3, upd_same, by rw [upd_ne d1.symm]; exact h5, nd⟩
theorem Cells.putCa (c : Cells C H p A last going rounds waiting cs) (l : List V) : Cells C (upd H A.ca (.lst l)) p A last going rounds waiting l := by
  obtain ⟨a1, a2, a3, a4, b1, b2, b3, c1, c2, d1⟩ := c.ne
  obtain ⟨⟨dx, h1⟩, h2, h3, h4, h5, nd⟩ := c
  exact ⟨⟨dx, by rw [upd_ne a4]; exact h1⟩, by rw [upd_ne b3]; exact h2, by rw [upd_ne c2]; exact h3, by rw [upd_ne d1]; exact h4, upd_same, nd⟩
theorem Cells.putGo (c : Cells C H p A last going rounds waiting cs) {dx : Addr} (g : Int) : Cells C (upd H p (.ins C dx (evF A g))) p A last g rounds waiting cs := by
  obtain ⟨a1, a2, a3, a4, b1, b2, b3, c1, c2, d1⟩ := c.ne
  obtain ⟨_, h2, h3, h4, h5, nd⟩ := c
  exact ⟨⟨dx, upd_same⟩, by rw [upd_ne a1.symm]; exact h2, by rw [upd_ne a2.symm]; exact h3, by rw [upd_ne a3.symm]; exact h4, by rw [upd_ne a4.symm]; exact h5, nd⟩
end
/-- the evening at p tells st; its parts lie outside of S, all that may change -/
structure Ev (K : PySem.W.Frag) (S : List Addr) (H : Hp) (p : Addr) (A : Ad) (st : EvS) : Prop where
  cell : ∃ cs, Cells (He.ga K "Evening") H p A st.last st.going st.rounds st.waiting cs ∧ Parts (off S H) cs st.tale
  sub : ∀ a ∈ own p A, a ∈ S
  dom : ∀ a ∈ S, ∃ o, H a = some o
  few : st.tale.length ≤ 900
theorem Ev.mono {K : PySem.W.Frag} {S : List Addr} {H H' : Hp} {p : Addr} {A : Ad} {st : EvS} (s : Same H H') (e : Ev K S H p A st) : Ev K S H' p A st := by
  obtain ⟨⟨cs, c, q⟩, sub, dom, few⟩ := e
  refine ⟨⟨cs, c.mono s, q.mono (off_mono s)⟩, sub, fun a ha => ?_, few⟩
  obtain ⟨o, h⟩ := dom a ha
  exact ⟨o, s _ _ h⟩
theorem memA (p : Addr) (A : Ad) : p ∈ own p A ∧ A.la ∈ own p A ∧ A.ro ∈ own p A ∧ A.wa ∈ own p A ∧ A.ca ∈ own p A := by
  unfold own; simp
section
variable {P : Program} {w : World} {K : PySem.W.Frag} {mg : Str → Option Value} {base : Heap}
/-! #### Evening(many) -/
theorem sc_Evening___init__ : FnScope ["self", "many"] ["self", "many"] (defScope s_Evening___init__) := ⟨rfl, rfl, rfl, by decide +kernel, rfl, by decide +kernel, by decide +kernel⟩
def sp_ev_init (K : PySem.W.Frag) : Sp := fun vs H Q _ => ∃ (p dx : Addr) (n : Int), vs = [.ref p, .int n] ∧ 1 ≤ n ∧ n ≤ 6 ∧ H p = some (.ins (He.ga K "Evening") dx []) ∧
  ∀ H' A, Fra [p] H H' → Cells (He.ga K "Evening") H' p A (List.replicate n.toNat 0) 1 [] [] [] → H A.la = none → H A.ro = none → H A.wa = none → H A.ca = none → Q .non H'
theorem fra_free {H H' : Hp} {p b : Addr} {o : HO} (f : Fra [p] H H') (hp : H p = some o) (nb : H' b = none) : (H b = none ∨ b = p) := by
  by_cases e : b = p
  · exact .inr e
  · refine .inl ?_
    cases q : H b with
    | none => rfl
    | some o => rw [f.one e q] at nb; cases nb
theorem mk_Evening (T : Tx K mg) : Mke P w K mg base "Evening" (He.ga K "Evening") 3 (sp_ev_init K) := by
  obtain ⟨fd, F⟩ := T.d_Evening___init__
  refine ⟨_, fd, _, F.ok (CX := CX0) sc_Evening___init__ (fun vs H Q E h => ?_) (fun cdv A outer s H vs Q E hr h => ?_), T.mk_Evening, T.g_Evening, F.bindsN fun _ _ _ _ _ _ us hl => match us, hl with | [_, _], _ => rfl⟩
  · obtain ⟨p, dx, n, rfl, _⟩ := h; rfl
  · obtain ⟨p, dx, n, rfl, h1, h6, hp, q⟩ := h
    refine ⟨_, PSs.nox (pss_cons (ps_expr (pe_fn (fn_check_many T) (hr.mono (by first | decide | omega)) (by rfl) (pa_cons (pv 1) pa_nil)))
      (pss_cons (show PS _ _ (sFld K _ _ _) from ps_fld (pv 0) (pe_op op_rep (pe_lst (pa_cons pe_int pa_nil)) (pv 1)) rfl)
      (pss_cons (show PS _ _ (sFld K _ _ _) from ps_fld (pv 0) pe_int rfl)
      (pss_cons (show PS _ _ (sFld K _ _ _) from ps_fld (pv 0) (pe_lst pa_nil) rfl)
      (pss_cons (show PS _ _ (sFld K _ _ _) from ps_fld (pv 0) (pe_lst pa_nil) rfl)
      (pss_one (show PS _ _ (sFld K _ _ _) from ps_fld (pv 0) (pe_lst pa_nil) rfl))))))), ?_⟩
    refine ⟨_, rfl, n, rfl, h1, h6, ?_⟩
    refine ⟨by show 1 ≤ sizeLine; decide, fun z nz => ?_⟩
    refine to_new nz fun H1 s1 hz => ?_
    refine ⟨_, rfl, z, n, _, rfl, rfl, hz, by omega, by omega, ?_, fun a na => ?_⟩
    · show 1 * n.toNat ≤ sizeLine
      have : sizeLine = 16777216 := by decide
      omega
    rw [rep_flat]
    refine to_new na fun H2 s2 ha => ?_
    have hp2 := s2 _ _ (s1 _ _ hp)
    have npa : p ≠ a := ne_of_none (s1 _ _ hp) na
    refine ⟨_, rfl, p, _, dx, _, rfl, hp2, T.cls_Evening, T.na_Evening_last, by show 0 < 1000; decide, ?_⟩
    refine to_put fun H3 f3 hp3 => ?_
    have ha3 := f3.one npa.symm ha
    refine ⟨_, rfl, p, _, dx, _, rfl, hp3, T.cls_Evening, T.na_Evening_going, by show 1 < 1000; decide, ?_⟩
    refine to_put fun H4 f4 hp4 => ?_
    have ha4 := f4.one npa.symm ha3
    refine ⟨Nat.zero_le _, fun b nb => ?_⟩
    refine to_new nb fun H5 s5 hb => ?_
    have npb : p ≠ b := ne_of_none hp4 nb
    have nab : a ≠ b := ne_of_none ha4 nb
    refine ⟨_, rfl, p, _, dx, _, rfl, s5 _ _ hp4, T.cls_Evening, T.na_Evening_rounds, by show 2 < 1000; decide, ?_⟩
    refine to_put fun H6 f6 hp6 => ?_
    have ha6 := f6.one npa.symm (s5 _ _ ha4)
    have hb6 := f6.one npb.symm hb
    refine ⟨Nat.zero_le _, fun c nc => ?_⟩
    refine to_new nc fun H7 s7 hc => ?_
    have npc : p ≠ c := ne_of_none hp6 nc
    have nac : a ≠ c := ne_of_none ha6 nc
    have nbc : b ≠ c := ne_of_none hb6 nc
    refine ⟨_, rfl, p, _, dx, _, rfl, s7 _ _ hp6, T.cls_Evening, T.na_Evening_waiting, by show 3 < 1000; decide, ?_⟩
    refine to_put fun H8 f8 hp8 => ?_
    have ha8 := f8.one npa.symm (s7 _ _ ha6)
    have hb8 := f8.one npb.symm (s7 _ _ hb6)
    have hc8 := f8.one npc.symm hc
    refine ⟨Nat.zero_le _, fun d nd => ?_⟩
    refine to_new nd fun H9 s9 hd => ?_
    have npd : p ≠ d := ne_of_none hp8 nd
    have nad : a ≠ d := ne_of_none ha8 nd
    have nbd : b ≠ d := ne_of_none hb8 nd
    have ncd : c ≠ d := ne_of_none hc8 nd
    refine ⟨_, rfl, p, _, dx, _, rfl, s9 _ _ hp8, T.cls_Evening, T.na_Evening_came, by show 4 < 1000; decide, ?_⟩
    refine to_put fun H10 f10 hp10 => ?_
    have fr2 : Fra [p] H H2 := Fra.of (s1.trans s2)
    have fr4 : Fra [p] H H4 := (fr2.trans f3).trans f4
    have fr6 : Fra [p] H H6 := (fr4.trans (Fra.of s5)).trans f6
    have fr8 : Fra [p] H H8 := (fr6.trans (Fra.of s7)).trans f8
    have fr10 : Fra [p] H H10 := (fr8.trans (Fra.of s9)).trans f10
    refine q H10 ⟨a, b, c, d⟩ fr10 ⟨⟨dx, ?_⟩, ?_, ?_, ?_, ?_, ?_⟩ (s1.free na) ((fra_free fr4 hp nb).resolve_right npb.symm) ((fra_free fr6 hp nc).resolve_right npc.symm) ((fra_free fr8 hp nd).resolve_right npd.symm)
    · rw [hp10]; exact congrArg some (congrArg (HO.ins _ dx) (by kernel_rfl))
    · exact f10.one npa.symm (s9 _ _ (by rw [← rep_ints]; exact ha8))
    · exact f10.one npb.symm (s9 _ _ hb8)
    · exact f10.one npc.symm (s9 _ _ hc8)
    · exact f10.one npd.symm hd
    · show [p, a, b, c, d].Nodup
      simp only [List.nodup_cons, List.mem_cons, List.not_mem_nil, or_false, not_or]
      exact ⟨⟨npa, npb, npc, npd⟩, ⟨nab, nac, nad⟩, ⟨nbc, nbd⟩, ncd, not_false, List.nodup_nil⟩
end
end Song

/-! ### Ev5: wish, sing, withdraw and the rest -/
namespace Song
open PySem L2
section
variable {C : Addr} {H : Hp} {p : Addr} {A : Ad} {last : List Int} {going : Int} {rounds waiting : List Int} {cs : List V} {Q : Hp → Prop}
@[elab_as_elim] theorem to_la (c : Cells C H p A last going rounds waiting cs) (l : List Int) (h : ∀ H', Fra (own p A) H H' → Cells C H' p A l going rounds waiting cs → Q H') : Q (upd H A.la (.lst (l.map V.int))) :=
  h _ (Fra.put (memA p A).2.1) (c.putLa l)
@[elab_as_elim] theorem to_ro (c : Cells C H p A last going rounds waiting cs) (l : List Int) (h : ∀ H', Fra (own p A) H H' → Cells C H' p A last going l waiting cs → Q H') : Q (upd H A.ro (.lst (l.map V.int))) :=
  h _ (Fra.put (memA p A).2.2.1) (c.putRo l)
@[elab_as_elim] theorem to_wa (c : Cells C H p A last going rounds waiting cs) (l : List Int) (h : ∀ H', Fra (own p A) H H' → Cells C H' p A last going rounds l cs → Q H') : Q (upd H A.wa (.lst (l.map V.int))) :=
  h _ (Fra.put (memA p A).2.2.2.1) (c.putWa l)
@[elab_as_elim] theorem to_ca (c : Cells C H p A last going rounds waiting cs) (l : List V) (h : ∀ H', Fra (own p A) H H' → Cells C H' p A last going rounds waiting l → (∀ b o, b ≠ A.ca → H b = some o → H' b = some o) → Q H') : Q (upd H A.ca (.lst l)) :=
  h _ (Fra.put (memA p A).2.2.2.2) (c.putCa l) fun b o n e => by rw [upd_ne n]; exact e
@[elab_as_elim] theorem to_go (c : Cells C H p A last going rounds waiting cs) (dx : Addr) (g : Int) (h : ∀ H', Fra (own p A) H H' → Cells C H' p A last g rounds waiting cs → Q H') : Q (upd H p (.ins C dx (evF A g))) :=
  h _ (Fra.put (memA p A).1) (c.putGo g)
end
theorem Cells.dom {C : Addr} {H H' : Hp} {p : Addr} {A : Ad} {last : List Int} {going : Int} {rounds waiting : List Int} {cs : List V} {S : List Addr} (c : Cells C H' p A last going rounds waiting cs) (f : Fra (own p A) H H')
    (d : ∀ a ∈ S, ∃ o, H a = some o) : ∀ a ∈ S, ∃ o, H' a = some o := fun a ha => by
  by_cases q : a ∈ own p A
  · unfold own at q
    simp only [List.mem_cons, List.not_mem_nil, or_false] at q
    obtain ⟨dx, hp⟩ := c.pp
    rcases q with e | e | e | e | e
    · rw [e]; exact ⟨_, hp⟩
    · rw [e]; exact ⟨_, c.la⟩
    · rw [e]; exact ⟨_, c.ro⟩
    · rw [e]; exact ⟨_, c.wa⟩
    · rw [e]; exact ⟨_, c.ca⟩
  · obtain ⟨o, h⟩ := d a ha
    exact ⟨o, f a o q h⟩
section
variable {P : Program} {w : World} {K : PySem.W.Frag} {mg : Str → Option Value} {base : Heap}
theorem sc_Evening_wish : FnScope ["self", "singers", "song", "number", "singer"] ["self", "singers"] (defScope s_Evening_wish) := ⟨rfl, rfl, rfl, by decide +kernel, rfl, by decide +kernel, by decide +kernel⟩
def sp_wish (K : PySem.W.Frag) : Sp := fun vs H Q _ => ∃ (S : List Addr) (p a : Addr) (A : Ad) (st : EvS) (ss : List Int), vs = [.ref p, .ref a] ∧ Ev K S H p A st ∧ EvOk st ∧ st.tale.length < 900 ∧ SqL K (off (own p A) H) a (ss.map V.int) ∧
  areSingers ss st.last.length = true ∧ st.rounds.length < 24 ∧
  ∀ H' t, Fra (own p A) H H' → Ev K S H' p A (st.wish ss) → H t = none → H' t = some (.tup [.int st.rounds.length, .int (st.num ss)]) → Q (.ref t) H'
theorem me_Evening_wish (T : Tx K mg) : Me P w K mg base (He.ga K "Evening") "wish" 4 (sp_wish K) := by
  obtain ⟨fd, F⟩ := T.d_Evening_wish
  refine ⟨_, fd, _, F.ok (CX := CX0) sc_Evening_wish (fun vs H Q E h => ?_) (fun cdv A outer s H vs Q E hr h => ?_), T.cls_Evening, T.me_Evening_wish, F.bindsN fun _ _ _ _ _ _ us hl => match us, hl with | [_, _], _ => rfl⟩
  · obtain ⟨S, p, a, A, st, ss, rfl, _⟩ := h; rfl
  · obtain ⟨S, p, a, A', st, ss, rfl, ev, ok, hlt, hs, hA, h24, q⟩ := h
    obtain ⟨⟨cs, c, hq⟩, sub, dom, few⟩ := ev
    obtain ⟨s1, s3, sin, _⟩ := areS_len hA
    have hsH : SqL K H a (ss.map V.int) := (off_le _ H).seq hs
    have idS : ∀ x ∈ own p A', x ∈ own p A' := fun _ h => h
    refine ⟨_, PSs.nox (pss_cons (ps_if (pt_not (pt_val (pe_fn (fn_are_singers T) (hr.mono (by first | decide | omega)) (by rfl) (pa_cons (pv 1) (pa_cons (pe_callB (show CallR _ _ (rLenQ K) from call_len_seq) (by rfl) T.len (by decide +kernel) (pa_cons (show PE _ _ (tFld K _ _) from pe_fld (pv 0) rfl) pa_nil)) pa_nil))))) (pss_one ps_never) pss_nil)
      (pss_cons (ps_if (pt_cmpR op_eq (pe_callB (show CallR _ _ (rLenQ K) from call_len_seq) (by rfl) T.len (by decide +kernel) (pa_cons (show PE _ _ (tFld K _ _) from pe_fld (pv 0) rfl) pa_nil)) (pe_gi T.c_MOST_SONGS (by rfl)) (nomark _)) (pss_one ps_never) pss_nil)
      (pss_cons (ps_par (i := 2) (j := 3) (by rfl) sc_Evening_wish.nd rfl rfl (by decide) rfl rfl (pa_cons (pe_callB (show CallR _ _ (rLenQ K) from call_len_seq) (by rfl) T.len (by decide +kernel) (pa_cons (show PE _ _ (tFld K _ _) from pe_fld (pv 0) rfl) pa_nil)) (pa_cons (pe_fn (fn_round_for T) (hr.mono (by first | decide | omega)) (by rfl) (pa_cons (show PE _ _ (tFld K _ _) from pe_fld (pv 0) rfl) (pa_cons (show PE _ _ (tFld K _ _) from pe_fld (pv 0) rfl) (pa_cons (pv 1) pa_nil)))) pa_nil)) (by rfl))
      (pss_cons (ps_expr (show PE _ _ (tBM K _ _ _ _) from pe_bm PySem.F.plainAttrs_list PySem.F.slot_list_append PySem.F.type_list_append mt_append (show PE _ _ (tFld K _ _) from pe_fld (pv 0) rfl) (pa_cons (pv 3) pa_nil)))
      (pss_cons (ps_expr (show PE _ _ (tBM K _ _ _ _) from pe_bm PySem.F.plainAttrs_list PySem.F.slot_list_append PySem.F.type_list_append mt_append (show PE _ _ (tFld K _ _) from pe_fld (pv 0) rfl) (pa_cons (pv 2) pa_nil)))
      (pss_cons (ps_for PassesOwn.never rfl (show PI _ _ _ (iList K _) from pi_list (pv 1)) (pg_name (i := 4) sc_Evening_wish.nd rfl (by first | exact Or.inl rfl | exact Or.inr rfl))
      (pss_one (ps_asg (pv 3) (pg_sub (show PE _ _ (tFld K _ _) from pe_fld (pv 0) rfl) (pv 4) set_list))))
      (pss_cons (ps_expr (show PE _ _ (tBM K _ _ _ _) from pe_bm PySem.F.plainAttrs_list PySem.F.slot_list_append PySem.F.type_list_append mt_append (show PE _ _ (tFld K _ _) from pe_fld (pv 0) rfl) (pa_cons (pe_tup (pa_cons pe_str (pa_cons (pe_callTy (show CallR _ _ (rListO K) from call_list_of) (by rfl) T.list (by decide +kernel) (pa_cons (pv 1) pa_nil)) (pa_cons (pv 2) (pa_cons (pv 3) pa_nil))))) pa_nil)))
      (pss_one (ps_ret (pe_tup (pa_cons (pv 2) (pa_cons (pv 3) pa_nil)))))))))))), ?_⟩
    obtain ⟨dx, hp⟩ := c.pp
    refine ⟨_, rfl, _, rfl, p, _, dx, _, _, rfl, hp, T.cls_Evening, T.na_Evening_last, evF_last _ _, A'.la, _, rfl, .inl (SqL.of c.la), a, ss, _, rfl, hsH, by omega, fun H1 t1 => ?_⟩
    rw [List.length_map, hA]
    refine ⟨_, rfl, iteF ?_⟩
    have c1 := c.mono t1
    have hp1 := t1 _ _ hp
    refine ⟨_, rfl, p, _, dx, _, _, rfl, hp1, T.cls_Evening, T.na_Evening_rounds, evF_rounds _ _, A'.ro, _, rfl, .inl (SqL.of c1.ro), rfl, _, rfl, ?_⟩
    rw [List.length_map, decide_eq_false (by intro z; injection z; omega)]
    refine iteF ?_
    refine ⟨_, rfl, p, _, dx, _, _, rfl, hp1, T.cls_Evening, T.na_Evening_rounds, evF_rounds _ _, A'.ro, _, rfl, .inl (SqL.of c1.ro), ?_⟩
    rw [List.length_map]
    refine ⟨_, rfl, p, _, dx, _, _, rfl, hp1, T.cls_Evening, T.na_Evening_last, evF_last _ _, _, rfl, p, _, dx, _, _, rfl, hp1, T.cls_Evening, T.na_Evening_going, evF_going _ _, _, rfl,
      A'.la, a, st.last, ss, st.going, rfl, SqL.of c1.la, t1.seq hsH, sin, (fun e => by rw [e] at s1; simp at s1), by omega, fun H2 t2 => ?_⟩
    have c2 := c1.mono t2
    have t12 := t1.trans t2
    refine ⟨_, _, rfl, ?_⟩
    have hp2 := t2 _ _ hp1
    refine ⟨_, rfl, p, _, dx, _, _, rfl, hp2, T.cls_Evening, T.na_Evening_rounds, evF_rounds _ _, .inl ⟨rfl, _, SqL.of c2.ro⟩, _, rfl, A'.ro, _, _, rfl, rfl, c2.ro, lt_line (by rw [List.length_map]; omega), ?_⟩
    rw [← snoc_ints]
    refine to_ro c2 _ fun H3 f3 c3 => ?_
    obtain ⟨dx3, hp3⟩ := c3.pp
    refine ⟨_, rfl, p, _, dx3, _, _, rfl, hp3, T.cls_Evening, T.na_Evening_waiting, evF_waiting _ _, .inl ⟨rfl, _, SqL.of c3.wa⟩, _, rfl, A'.wa, _, _, rfl, rfl, c3.wa, lt_line (by rw [List.length_map]; have := ok.w24; omega), ?_⟩
    rw [← snoc_ints]
    refine to_wa c3 _ fun H4 f4 c4 => ?_
    have fr4 : Fra (own p A') H H4 := ((Fra.of t12).trans f3).trans f4
    refine ⟨_, rfl, a, rfl, ⟨_, (fr4.le idS).seq hs⟩, for_list (K := K) (a := a) (xs := ss.map V.int)
      (fun i σ H' => (∃ x, σ = [some (.ref p), some (.ref a), some (.int st.rounds.length), some (.int (st.num ss)), x]) ∧ Fra (own p A') H H' ∧
        Cells (He.ga K "Evening") H' p A' (setAll st.last (ss.take i) (st.num ss)) st.going (st.rounds ++ [st.num ss]) (st.waiting ++ [(st.rounds.length : Int)]) cs) ⟨⟨_, rfl⟩, fr4, c4⟩ ?_ ?_ ?_⟩
    · intro i σ H' _ h
      exact (h.2.1.le idS).seq hs
    · rintro i x σ H' hx ⟨⟨y, rfl⟩, fr, ci⟩
      obtain ⟨s, rfl, hsi⟩ := int_at hx
      obtain ⟨h0, h1⟩ := sin s (List.mem_of_getElem? hsi)
      obtain ⟨dxi, hpi⟩ := ci.pp
      refine ⟨_, rfl, _, rfl, p, _, dxi, _, _, rfl, hpi, T.cls_Evening, T.na_Evening_last, evF_last _ _, _, rfl, A'.la, _, _, _, rfl, rfl, ci.la, ixN_of h0 (by rw [List.length_map, setAll_len]; exact h1), ?_⟩
      rw [← List.map_set]
      refine to_la ci _ fun H5 f5 c5 => ?_
      refine ⟨⟨_, rfl⟩, fr.trans f5, ?_⟩
      rw [List.take_add_one, hsi]
      show Cells _ _ _ _ (setAll st.last (ss.take i ++ [s]) _) _ _ _ _
      rw [setAll_snoc]
      exact c5
    · rintro σ H5 ⟨⟨y, rfl⟩, fr5, c5⟩
      rw [List.length_map, List.take_length] at c5
      obtain ⟨dx5, hp5⟩ := c5.pp
      refine ⟨_, rfl, p, _, dx5, _, _, rfl, hp5, T.cls_Evening, T.na_Evening_came, evF_came _ _, .inl ⟨rfl, _, SqL.of c5.ca⟩, _, rfl, a, _, rfl, .inl ((fr5.le idS).seq hs), fun b nb => ?_⟩
      refine to_new nb fun H6 s6 hb => ?_
      refine ⟨_, rfl, _, rfl, by show 4 ≤ sizeLine; decide, fun t nt => ?_⟩
      refine to_new nt fun H7 s7 ht => ?_
      have c7 := c5.mono (s6.trans s7)
      have fr7 : Fra (own p A') H H7 := fr5.trans (Fra.of (s6.trans s7))
      refine ⟨A'.ca, _, _, rfl, rfl, c7.ca, lt_line (by rw [hq.len]; omega), ?_⟩
      refine to_ca c7 _ fun H8 f8 c8 kp => ?_
      have fr8 : Fra (own p A') H H8 := fr7.trans f8
      refine ⟨_, rfl, _, rfl, by show 2 ≤ sizeLine; decide, fun u nu => ?_⟩
      refine to_new nu fun H9 s9 hu => ?_
      have dom5 := c5.dom fr5 dom
      have dom6 := dom_same s6 dom5
      have bS : b ∉ S := new_out dom5 nb
      have tS : t ∉ S := new_out dom6 nt
      have fr9 : Fra (own p A') H H9 := fr8.trans (Fra.of s9)
      refine q H9 u fr9 ⟨⟨_, c8.mono s9, ?_⟩, sub, dom_same s9 (c8.dom fr8 dom), ?_⟩ ?_ hu
      · refine Parts.snoc ?_ (hq.mono (Fra.off (fr9.mono sub)))
        have nca : ∀ x : Addr, x ∉ S → x ≠ A'.ca := fun x hx e => hx (by rw [e]; exact sub _ (memA p A').2.2.2.2)
        exact ⟨b, by rw [off_out tS]; exact s9 _ _ (kp _ _ (nca t tS) ht), by rw [off_out bS]; exact s9 _ _ (kp _ _ (nca b bS) (s7 _ _ hb))⟩
      · show (st.tale ++ [_]).length ≤ 900
        rw [List.length_append, List.length_singleton]; omega
      · have uS : u ∉ S := new_out (c8.dom fr8 dom) nu
        cases e : H u with
        | none => rfl
        | some o => rw [fr8 u o (fun z => uS (sub u z)) e] at nu; cases nu
end
end Song

/-! ### Ev6: sing, withdraw, waits, tale -/
namespace Song
open PySem L2
theorem Ev.free {K : PySem.W.Frag} {S : List Addr} {H H' : Hp} {p : Addr} {A : Ad} {st : EvS} {u : Addr} (ev : Ev K S H p A st) (f : Fra (own p A) H H') (d : ∀ a ∈ S, ∃ o, H' a = some o) (nu : H' u = none) : H u = none := by
  have uS : u ∉ S := new_out d nu
  cases e : H u with
  | none => rfl
  | some o => rw [f u o (fun z => uS (ev.sub u z)) e] at nu; cases nu
section
variable {P : Program} {w : World} {K : PySem.W.Frag} {mg : Str → Option Value} {base : Heap}
theorem sc_Evening_sing : FnScope ["self", "turns", "song"] ["self"] (defScope s_Evening_sing) := ⟨rfl, rfl, rfl, by decide +kernel, rfl, by decide +kernel, by decide +kernel⟩
def sp_sing (K : PySem.W.Frag) : Sp := fun vs H Q _ => ∃ (S : List Addr) (p : Addr) (A : Ad) (st : EvS), vs = [.ref p] ∧ Ev K S H p A st ∧ EvOk st ∧ st.tale.length < 900 ∧
  ∀ H', Fra (own p A) H H' → Ev K S H' p A st.sing → Q (optV st.next) H'
theorem me_Evening_sing (T : Tx K mg) : Me P w K mg base (He.ga K "Evening") "sing" 2 (sp_sing K) := by
  obtain ⟨fd, F⟩ := T.d_Evening_sing
  refine ⟨_, fd, _, F.ok (CX := CX0) sc_Evening_sing (fun vs H Q E h => ?_) (fun cdv A outer s H vs Q E hr h => ?_), T.cls_Evening, T.me_Evening_sing, F.bindsN fun _ _ _ _ _ _ us hl => match us, hl with | [_], _ => rfl⟩
  · obtain ⟨S, p, A, st, rfl, _⟩ := h; rfl
  · obtain ⟨S, p, A', st, rfl, ev, ok, hlt, q⟩ := h
    obtain ⟨⟨cs, c, hq⟩, sub, dom, few⟩ := id ev
    refine ⟨_, PSs.nox (pss_cons (ps_set (i := 1) sc_Evening_sing.nd rfl (by first | exact Or.inl rfl | exact Or.inr rfl) (pe_fn (fn_in_turn T) (hr.mono (by first | decide | omega)) (by rfl) (pa_cons (show PE _ _ (tFld K _ _) from pe_fld (pv 0) rfl) (pa_cons (show PE _ _ (tFld K _ _) from pe_fld (pv 0) rfl) pa_nil))))
      (pss_cons (ps_set (i := 2) sc_Evening_sing.nd rfl (by first | exact Or.inl rfl | exact Or.inr rfl) (pe_ifExp (pt_cmpR (show OpR _ _ (rNeD K) from op_neD hr.units) (pv 1) (pe_lst pa_nil) (nomark _)) (pe_ix (show IxR _ (rIxL K) from ix_list) (pv 1) pe_int (fun _ _ => rfl)) pe_non))
      (pss_cons (ps_if (pt_cmpR op_notN (pv 2) pe_non (nomark _)) (pss_cons (ps_expr (show PE _ _ (tBM K _ _ _ _) from pe_bm PySem.F.plainAttrs_list PySem.F.slot_list_remove PySem.F.type_list_remove mt_remove (show PE _ _ (tFld K _ _) from pe_fld (pv 0) rfl) (pa_cons (pv 2) pa_nil)))
      (pss_one (show PS _ _ (sFld K _ _ _) from ps_fld (pv 0) (pe_ix (show IxR _ (rIxL K) from ix_list) (show PE _ _ (tFld K _ _) from pe_fld (pv 0) rfl) (pv 2) (fun _ _ => rfl)) rfl))) pss_nil)
      (pss_cons (ps_expr (show PE _ _ (tBM K _ _ _ _) from pe_bm PySem.F.plainAttrs_list PySem.F.slot_list_append PySem.F.type_list_append mt_append (show PE _ _ (tFld K _ _) from pe_fld (pv 0) rfl) (pa_cons (pe_tup (pa_cons pe_str (pa_cons (pv 2) pa_nil))) pa_nil)))
      (pss_one (ps_ret (pv 2))))))), ?_⟩
    obtain ⟨dx, hp⟩ := c.pp
    refine ⟨_, rfl, p, _, dx, _, _, rfl, hp, T.cls_Evening, T.na_Evening_rounds, evF_rounds _ _, _, rfl, p, _, dx, _, _, rfl, hp, T.cls_Evening, T.na_Evening_waiting, evF_waiting _ _,
      A'.ro, A'.wa, st.rounds, st.waiting, rfl, SqL.of c.ro, SqL.of c.wa, ok.inb, by have := ok.w24; omega, fun l H1 nl s1 hl => ?_⟩
    have e0 : inTurn st.rounds st.waiting = st.queue := rfl
    rw [e0] at hl
    refine ⟨_, rfl, Nat.zero_le _, fun l2 nl2 => ?_⟩
    refine to_new nl2 fun H2 s2 hl2 => ?_
    refine ⟨_, _, dp_ints (SqL.of (s2 _ _ hl)), .lst (SqL.of hl2) .nil, (shp_ints _).ok, shp_nil.ok, _, rfl, ?_⟩
    rw [eqv_nil]
    have c2 := c.mono (s1.trans s2)
    have fr2 : Fra (own p A') H H2 := Fra.of (s1.trans s2)
    obtain ⟨dx2, hp2⟩ := c2.pp
    cases e : st.queue with
    | nil =>
      have en : st.next = none := by unfold EvS.next; rw [e]; rfl
      have es : st.sing = { st with tale := st.tale ++ [.sing none] } := by unfold EvS.sing; rw [en]
      refine iteF ⟨_, rfl, rfl, _, rfl, iteF ?_⟩
      refine ⟨_, rfl, p, _, dx2, _, _, rfl, hp2, T.cls_Evening, T.na_Evening_came, evF_came _ _, .inl ⟨rfl, _, SqL.of c2.ca⟩, _, rfl, by show 2 ≤ sizeLine; decide, fun t nt => ?_⟩
      refine to_new nt fun H3 s3 ht => ?_
      have c3 := c2.mono s3
      refine ⟨A'.ca, _, _, rfl, rfl, c3.ca, lt_line (by rw [hq.len]; omega), ?_⟩
      refine to_ca c3 _ fun H4 f4 c4 kp => ?_
      have fr4 : Fra (own p A') H H4 := (fr2.trans (Fra.of s3)).trans f4
      refine ⟨_, rfl, ?_⟩
      have tS : t ∉ S := new_out (c2.dom fr2 dom) nt
      rw [en, es] at q
      refine q H4 fr4 ⟨⟨_, c4, Parts.snoc ?_ (hq.mono (Fra.off (fr4.mono sub)))⟩, sub, c4.dom fr4 dom, ?_⟩
      · show off S H4 t = _
        rw [off_out tS]
        exact kp _ _ (fun z => tS (by rw [z]; exact sub _ (memA p A').2.2.2.2)) ht
      · show (st.tale ++ [_]).length ≤ 900
        rw [List.length_append, List.length_singleton]; omega
    | cons x r =>
      have en : st.next = some x := by unfold EvS.next; rw [e]; rfl
      have hx := EvS.next_mem en
      obtain ⟨h0, h1⟩ := ok.inb x hx
      obtain ⟨j, j1, j2, j3⟩ := erase_at hx
      rw [e] at hl
      refine iteT ⟨_, rfl, l, _, _, _, rfl, rfl, SqL.of (s2 _ _ hl), atI_nat (j := 0) rfl, ?_⟩
      refine ⟨_, rfl, rfl, _, rfl, iteT ?_⟩
      refine ⟨_, rfl, p, _, dx2, _, _, rfl, hp2, T.cls_Evening, T.na_Evening_waiting, evF_waiting _ _, .inl ⟨rfl, _, SqL.of c2.wa⟩, _, rfl, A'.wa, _, _, j, rfl, rfl, c2.wa, j1, j2, ?_⟩
      rw [j3]
      refine to_wa c2 _ fun H3 f3 c3 => ?_
      obtain ⟨dx3, hp3⟩ := c3.pp
      refine ⟨_, rfl, p, _, dx3, _, _, rfl, hp3, T.cls_Evening, T.na_Evening_rounds, evF_rounds _ _, _, rfl, A'.ro, _, _, _, rfl, rfl, SqL.of c3.ro, at_int h0 h1,
        _, rfl, p, _, dx3, _, rfl, hp3, T.cls_Evening, T.na_Evening_going, by show 5 < 1000; decide, ?_⟩
      rw [evF_put]
      refine to_go c3 dx3 _ fun H4 f4 c4 => ?_
      obtain ⟨dx4, hp4⟩ := c4.pp
      have fr4 : Fra (own p A') H H4 := (fr2.trans f3).trans f4
      refine ⟨_, rfl, p, _, dx4, _, _, rfl, hp4, T.cls_Evening, T.na_Evening_came, evF_came _ _, .inl ⟨rfl, _, SqL.of c4.ca⟩, _, rfl, by show 2 ≤ sizeLine; decide, fun t nt => ?_⟩
      refine to_new nt fun H5 s5 ht => ?_
      have c5 := c4.mono s5
      refine ⟨A'.ca, _, _, rfl, rfl, c5.ca, lt_line (by rw [hq.len]; omega), ?_⟩
      refine to_ca c5 _ fun H6 f6 c6 kp => ?_
      have fr6 : Fra (own p A') H H6 := (fr4.trans (Fra.of s5)).trans f6
      refine ⟨_, rfl, ?_⟩
      have tS : t ∉ S := new_out (c4.dom fr4 dom) nt
      have es : st.sing = { st with waiting := st.waiting.erase x, going := st.rounds.getD x.toNat 0, tale := st.tale ++ [.sing (some x)] } := by unfold EvS.sing; rw [en]
      rw [en, es] at q
      refine q H6 fr6 ⟨⟨_, c6, Parts.snoc ?_ (hq.mono (Fra.off (fr6.mono sub)))⟩, sub, c6.dom fr6 dom, ?_⟩
      · show off S H6 t = _
        rw [off_out tS]
        exact kp _ _ (fun z => tS (by rw [z]; exact sub _ (memA p A').2.2.2.2)) ht
      · show (st.tale ++ [_]).length ≤ 900
        rw [List.length_append, List.length_singleton]; omega
theorem sc_Evening_look_at : FnScope ["self", "song"] ["self", "song"] (defScope s_Evening_look_at) := ⟨rfl, rfl, rfl, by decide +kernel, rfl, by decide +kernel, by decide +kernel⟩
def sp_look_at (K : PySem.W.Frag) : Sp := fun vs H Q _ => ∃ (S : List Addr) (p : Addr) (A : Ad) (st : EvS) (n : Int), vs = [.ref p, .int n] ∧ Ev K S H p A st ∧ n ∈ st.waiting ∧ Q .non H
theorem me_Evening_look_at (T : Tx K mg) : Me P w K mg base (He.ga K "Evening") "look_at" 2 (sp_look_at K) := by
  obtain ⟨fd, F⟩ := T.d_Evening_look_at
  refine ⟨_, fd, _, F.ok (CX := CX0) sc_Evening_look_at (fun vs H Q E h => ?_) (fun cdv A outer s H vs Q E hr h => ?_), T.cls_Evening, T.me_Evening_look_at, F.bindsN fun _ _ _ _ _ _ us hl => match us, hl with | [_, _], _ => rfl⟩
  · obtain ⟨S, p, A, st, n, rfl, _⟩ := h; rfl
  · obtain ⟨S, p, A', st, n, rfl, ev, hn, q⟩ := h
    obtain ⟨⟨cs, c, hq⟩, sub, dom, few⟩ := ev
    refine ⟨_, PSs.nox (pss_one (ps_if (PW.pt (pw_or (pt_not (pt_val (pe_fn (fn_is_whole T) (hr.mono (by first | decide | omega)) (by rfl) (pa_cons (pv 1) pa_nil)))) (pw_or1 (pt_cmpR (show OpR _ _ (rIn K true) from op_notIn_seq) (pv 1) (show PE _ _ (tFld K _ _) from pe_fld (pv 0) rfl) (by rfl))))) (pss_one ps_never) pss_nil)), ?_⟩
    obtain ⟨dx, hp⟩ := c.pp
    refine ⟨_, rfl, _, _, rfl, kd_int n, _, rfl, iteF ?_⟩
    refine ⟨_, rfl, _, rfl, p, _, dx, _, _, rfl, hp, T.cls_Evening, T.na_Evening_waiting, evF_waiting _ _, A'.wa, _, rfl, .inl (SqL.of c.wa), rfl, flat_ints _, _, rfl, ?_⟩
    rw [inV_ints, decide_eq_true hn]
    exact iteF q
theorem sc_Evening_withdraw : FnScope ["self", "song"] ["self", "song"] (defScope s_Evening_withdraw) := ⟨rfl, rfl, rfl, by decide +kernel, rfl, by decide +kernel, by decide +kernel⟩
def sp_withdraw (K : PySem.W.Frag) : Sp := fun vs H Q _ => ∃ (S : List Addr) (p : Addr) (A : Ad) (st : EvS) (n : Int), vs = [.ref p, .int n] ∧ Ev K S H p A st ∧ EvOk st ∧ st.tale.length < 900 ∧ n ∈ st.waiting ∧
  ∀ H', Fra (own p A) H H' → Ev K S H' p A (st.out n) → Q (.int (st.out n).waiting.length) H'
theorem me_Evening_withdraw (T : Tx K mg) : Me P w K mg base (He.ga K "Evening") "withdraw" 3 (sp_withdraw K) := by
  obtain ⟨fd, F⟩ := T.d_Evening_withdraw
  refine ⟨_, fd, _, F.ok (CX := CX0) sc_Evening_withdraw (fun vs H Q E h => ?_) (fun cdv A outer s H vs Q E hr h => ?_), T.cls_Evening, T.me_Evening_withdraw, F.bindsN fun _ _ _ _ _ _ us hl => match us, hl with | [_, _], _ => rfl⟩
  · obtain ⟨S, p, A, st, n, rfl, _⟩ := h; rfl
  · obtain ⟨S, p, A', st, n, rfl, ev, ok, hlt, hn, q⟩ := h
    obtain ⟨⟨cs, c, hq⟩, sub, dom, few⟩ := id ev
    refine ⟨_, PSs.nox (pss_cons (ps_expr (pe_me (me_Evening_look_at T) (hr.mono (by first | decide | omega)) (pv 0) (pa_cons (pv 1) pa_nil)))
      (pss_cons (ps_expr (show PE _ _ (tBM K _ _ _ _) from pe_bm PySem.F.plainAttrs_list PySem.F.slot_list_remove PySem.F.type_list_remove mt_remove (show PE _ _ (tFld K _ _) from pe_fld (pv 0) rfl) (pa_cons (pv 1) pa_nil)))
      (pss_cons (ps_expr (show PE _ _ (tBM K _ _ _ _) from pe_bm PySem.F.plainAttrs_list PySem.F.slot_list_append PySem.F.type_list_append mt_append (show PE _ _ (tFld K _ _) from pe_fld (pv 0) rfl) (pa_cons (pe_tup (pa_cons pe_str (pa_cons (pv 1) pa_nil))) pa_nil)))
      (pss_one (ps_ret (pe_callB (show CallR _ _ (rLenQ K) from call_len_seq) (by rfl) T.len (by decide +kernel) (pa_cons (show PE _ _ (tFld K _ _) from pe_fld (pv 0) rfl) pa_nil))))))), ?_⟩
    obtain ⟨dx, hp⟩ := c.pp
    obtain ⟨j, j1, j2, j3⟩ := erase_at hn
    refine ⟨_, rfl, p, dx, _, rfl, hp, evF_no _ _ (by decide +kernel), _, rfl, S, p, A', st, n, rfl, ev, hn, ?_⟩
    refine ⟨_, rfl, p, _, dx, _, _, rfl, hp, T.cls_Evening, T.na_Evening_waiting, evF_waiting _ _, .inl ⟨rfl, _, SqL.of c.wa⟩, _, rfl, A'.wa, _, _, j, rfl, rfl, c.wa, j1, j2, ?_⟩
    rw [j3]
    refine to_wa c _ fun H3 f3 c3 => ?_
    obtain ⟨dx3, hp3⟩ := c3.pp
    refine ⟨_, rfl, p, _, dx3, _, _, rfl, hp3, T.cls_Evening, T.na_Evening_came, evF_came _ _, .inl ⟨rfl, _, SqL.of c3.ca⟩, _, rfl, by show 2 ≤ sizeLine; decide, fun t nt => ?_⟩
    refine to_new nt fun H5 s5 ht => ?_
    have c5 := c3.mono s5
    refine ⟨A'.ca, _, _, rfl, rfl, c5.ca, lt_line (by rw [hq.len]; omega), ?_⟩
    refine to_ca c5 _ fun H6 f6 c6 kp => ?_
    have fr6 : Fra (own p A') H H6 := (f3.trans (Fra.of s5)).trans f6
    obtain ⟨dx6, hp6⟩ := c6.pp
    refine ⟨_, rfl, p, _, dx6, _, _, rfl, hp6, T.cls_Evening, T.na_Evening_waiting, evF_waiting _ _, A'.wa, _, rfl, .inl (SqL.of c6.wa), ?_⟩
    rw [List.length_map]
    have tS : t ∉ S := new_out (c3.dom f3 dom) nt
    refine q H6 fr6 ⟨⟨_, c6, Parts.snoc ?_ (hq.mono (Fra.off (fr6.mono sub)))⟩, sub, c6.dom fr6 dom, ?_⟩
    · show off S H6 t = _
      rw [off_out tS]
      exact kp _ _ (fun z => tS (by rw [z]; exact sub _ (memA p A').2.2.2.2)) ht
    · show (st.tale ++ [_]).length ≤ 900
      rw [List.length_append, List.length_singleton]; omega
theorem sc_Evening_round_now : FnScope ["self"] ["self"] (defScope s_Evening_round_now) := ⟨rfl, rfl, rfl, by decide +kernel, rfl, by decide +kernel, by decide +kernel⟩
def sp_round_now (K : PySem.W.Frag) : Sp := fun vs H Q _ => ∃ (S : List Addr) (p : Addr) (A : Ad) (st : EvS), vs = [.ref p] ∧ Ev K S H p A st ∧ Q (.int st.going) H
theorem me_Evening_round_now (T : Tx K mg) : Me P w K mg base (He.ga K "Evening") "round_now" 1 (sp_round_now K) := by
  obtain ⟨fd, F⟩ := T.d_Evening_round_now
  refine ⟨_, fd, _, F.ok (CX := CX0) sc_Evening_round_now (fun vs H Q E h => ?_) (fun cdv A outer s H vs Q E hr h => ?_), T.cls_Evening, T.me_Evening_round_now, F.bindsN fun _ _ _ _ _ _ us hl => match us, hl with | [_], _ => rfl⟩
  · obtain ⟨S, p, A, st, rfl, _⟩ := h; rfl
  · obtain ⟨S, p, A', st, rfl, ev, q⟩ := h
    obtain ⟨⟨cs, c, hq⟩, sub, dom, few⟩ := ev
    obtain ⟨dx, hp⟩ := c.pp
    refine ⟨_, PSs.nox (pss_one (ps_ret (show PE _ _ (tFld K _ _) from pe_fld (pv 0) rfl))), ?_⟩
    exact ⟨_, rfl, p, _, dx, _, _, rfl, hp, T.cls_Evening, T.na_Evening_going, evF_going _ _, q⟩
theorem sc_Evening_waits : FnScope ["self"] ["self"] (defScope s_Evening_waits) := ⟨rfl, rfl, rfl, by decide +kernel, rfl, by decide +kernel, by decide +kernel⟩
def sp_waits (K : PySem.W.Frag) : Sp := fun vs H Q _ => ∃ (S : List Addr) (p : Addr) (A : Ad) (st : EvS), vs = [.ref p] ∧ Ev K S H p A st ∧ EvOk st ∧
  ∀ l H', H l = none → Same H H' → H' l = some (.lst (st.queue.map V.int)) → Q (.ref l) H'
theorem me_Evening_waits (T : Tx K mg) : Me P w K mg base (He.ga K "Evening") "waits" 2 (sp_waits K) := by
  obtain ⟨fd, F⟩ := T.d_Evening_waits
  refine ⟨_, fd, _, F.ok (CX := CX0) sc_Evening_waits (fun vs H Q E h => ?_) (fun cdv A outer s H vs Q E hr h => ?_), T.cls_Evening, T.me_Evening_waits, F.bindsN fun _ _ _ _ _ _ us hl => match us, hl with | [_], _ => rfl⟩
  · obtain ⟨S, p, A, st, rfl, _⟩ := h; rfl
  · obtain ⟨S, p, A', st, rfl, ev, ok, q⟩ := h
    obtain ⟨⟨cs, c, hq⟩, sub, dom, few⟩ := ev
    obtain ⟨dx, hp⟩ := c.pp
    refine ⟨_, PSs.nox (pss_one (ps_ret (pe_fn (fn_in_turn T) (hr.mono (by first | decide | omega)) (by rfl) (pa_cons (show PE _ _ (tFld K _ _) from pe_fld (pv 0) rfl) (pa_cons (show PE _ _ (tFld K _ _) from pe_fld (pv 0) rfl) pa_nil))))), ?_⟩
    exact ⟨_, rfl, p, _, dx, _, _, rfl, hp, T.cls_Evening, T.na_Evening_rounds, evF_rounds _ _, _, rfl, p, _, dx, _, _, rfl, hp, T.cls_Evening, T.na_Evening_waiting, evF_waiting _ _,
      A'.ro, A'.wa, st.rounds, st.waiting, rfl, SqL.of c.ro, SqL.of c.wa, ok.inb, (by have := ok.w24; omega), q⟩
/-! #### tale() -/
/-- a part told anew: the list within a wish is new to H0 -/
def PartN (H0 H : Hp) (v : V) (p : Part) : Prop := PartAt H v p ∧ ∀ ss n r, p = .wish ss n r → ∃ t b, v = .ref t ∧ H t = some (.tup [.str "wish", .ref b, .int n, .int r]) ∧ H b = some (.lst (ss.map V.int)) ∧ H0 b = none
theorem PartN.mono {H0 H H' : Hp} (s : Same H H') {v : V} {p : Part} (h : PartN H0 H v p) : PartN H0 H' v p :=
  ⟨h.1.mono s, fun ss n r e => by
    obtain ⟨t, b, h1, h2, h3, h4⟩ := h.2 ss n r e
    exact ⟨t, b, h1, s _ _ h2, s _ _ h3, h4⟩⟩
theorem nW1 : decide (V.str "sing" = V.str "wish") = false := by decide +kernel
theorem nW2 : decide (V.str "out" = V.str "wish") = false := by decide +kernel
theorem sc_Evening_tale : FnScope ["self", "one"] ["self"] (defScope s_Evening_tale) := ⟨rfl, rfl, rfl, by decide +kernel, rfl, by decide +kernel, by decide +kernel⟩
def sp_tale (K : PySem.W.Frag) : Sp := fun vs H Q _ => ∃ (S : List Addr) (p : Addr) (A : Ad) (st : EvS), vs = [.ref p] ∧ Ev K S H p A st ∧
  ∀ l H' cs, H l = none → Same H H' → H' l = some (.lst cs) → cs.length = st.tale.length → (∀ (i : Nat) v, cs[i]? = some v → ∃ q, st.tale[i]? = some q ∧ PartN H (off [l] H') v q) → Q (.ref l) H'
theorem me_Evening_tale (T : Tx K mg) : Me P w K mg base (He.ga K "Evening") "tale" 1 (sp_tale K) := by
  obtain ⟨fd, F⟩ := T.d_Evening_tale
  refine ⟨_, fd, _, F.ok (CX := CX0) sc_Evening_tale (fun vs H Q E h => ?_) (fun cdv A outer s H vs Q E hr h => ?_), T.cls_Evening, T.me_Evening_tale, F.bindsN fun _ _ _ _ _ _ us hl => match us, hl with | [_], _ => rfl⟩
  · obtain ⟨S, p, A, st, rfl, _⟩ := h; rfl
  · obtain ⟨S, p, A', st, rfl, ev, q⟩ := h
    obtain ⟨⟨cs, c, hq⟩, sub, dom, few⟩ := ev
    obtain ⟨dx, hp⟩ := c.pp
    refine ⟨_, PSs.nox (pss_one (ps_ret (pe_lc (own := [("one", 1)]) (g := (gName 1)) (tt := tYes) (by rfl) sc_Evening_tale.nd (show PI _ _ _ (iList K _) from pi_list (show PE _ _ (tFld K _ _) from pe_fld (pv 0) rfl)) (blkOk_by (by kernel_rfl)) (fun _ _ _ _ _ => (pg_name (i := 1) sc_Evening_tale.nd rfl (by first | exact Or.inl rfl | exact Or.inr rfl))) (fun _ _ _ _ _ => pts_nil) (fun _ _ _ _ _ => (pe_ifExp (pt_cmpR op_eq (pe_ix (show IxR _ (rIxT K) from ix_tup) (pv 1) pe_int (fun _ _ => rfl)) pe_str (nomark _)) (pe_tup (pa_cons (pe_ix (show IxR _ (rIxT K) from ix_tup) (pv 1) pe_int (fun _ _ => rfl)) (pa_cons (pe_callTy (show CallR _ _ (rListO K) from call_list_of) (by rfl) T.list (by decide +kernel) (pa_cons (pe_ix (show IxR _ (rIxT K) from ix_tup) (pv 1) pe_int (fun _ _ => rfl)) pa_nil)) (pa_cons (pe_ix (show IxR _ (rIxT K) from ix_tup) (pv 1) pe_int (fun _ _ => rfl)) (pa_cons (pe_ix (show IxR _ (rIxT K) from ix_tup) (pv 1) pe_int (fun _ _ => rfl)) pa_nil))))) (pv 1)))))), ?_⟩
    have hqH : Parts H cs st.tale := hq.mono (off_le S H)
    refine ⟨_, rfl, p, _, dx, _, _, rfl, hp, T.cls_Evening, T.na_Evening_came, evF_came _ _, A'.ca, rfl, ⟨_, SqL.of c.ca⟩, fun D nD => lc_all walk_list sqL_mono (SqL.of c.ca) (fun i H1 y => ∃ q, st.tale[i]? = some q ∧ PartN H H1 y q) ?_ nD (by rw [hqH.len]; omega) ?_ ?_ gname_mono⟩
    · rintro i H1 H2 y s1 ⟨q, h1, h2⟩
      exact ⟨q, h1, h2.mono s1⟩
    · rintro i x H1 H2 acc hi1 s1 hD ⟨rfl, hx⟩ k hk
      obtain ⟨part, hpt, pa⟩ := hqH.get hx
      cases x with
      | ref t =>
        cases part with
        | wish ss n r =>
          obtain ⟨b, ht, hb⟩ := pa
          have ht2 := s1 _ _ ht
          have hb2 := s1 _ _ hb
          refine ⟨rfl, _, rfl, t, _, _, _, rfl, rfl, SqT.of ht2, atI_nat (j := 0) rfl, rfl, _, rfl, ?_⟩
          rw [decide_eq_true rfl]
          refine iteT ⟨_, rfl, t, _, _, _, rfl, rfl, SqT.of ht2, atI_nat (j := 0) rfl, _, rfl, t, _, _, _, rfl, rfl, SqT.of ht2, atI_nat (j := 1) rfl, b, _, rfl, .inl (SqL.of hb2), fun b' nb => ?_⟩
          refine to_new nb fun H3 s3 hb3 => ?_
          have ht3 := s3 _ _ ht2
          refine ⟨_, rfl, t, _, _, _, rfl, rfl, SqT.of ht3, atI_nat (j := 2) rfl, _, rfl, t, _, _, _, rfl, rfl, SqT.of ht3, atI_nat (j := 3) rfl, by show 4 ≤ sizeLine; decide, fun t' nt => ?_⟩
          have hb4 : upd H3 t' (.tup [.str "wish", .ref b', .int n, .int r]) b' = some (.lst (ss.map V.int)) := (Same.new nt) _ _ hb3
          have nbD : b' ≠ D := (ne_of_none hD nb).symm
          have ntD : t' ≠ D := (ne_of_none (s3 _ _ hD) nt).symm
          have o1 : off [D] (upd H3 t' (.tup [.str "wish", .ref b', .int n, .int r])) t' = some (.tup [.str "wish", .ref b', .int n, .int r]) := by rw [off_out (by simpa using ntD)]; exact upd_same
          have o2 : off [D] (upd H3 t' (.tup [.str "wish", .ref b', .int n, .int r])) b' = some (.lst (ss.map V.int)) := by rw [off_out (by simpa using nbD)]; exact hb4
          refine hk _ _ (s3.trans (Same.new nt)) ⟨_, hpt, ⟨b', o1, o2⟩, fun ss' n' r' e => ?_⟩
          injection e with e1 e2 e3
          subst e1; subst e2; subst e3
          exact ⟨t', b', rfl, o1, o2, s1.free nb⟩
        | sing o =>
          have ht2 := s1 _ _ pa
          refine ⟨rfl, _, rfl, t, _, _, _, rfl, rfl, SqT.of ht2, atI_nat (j := 0) rfl, rfl, _, rfl, ?_⟩
          rw [nW1]
          refine iteF ⟨_, rfl, hk _ _ (Same.refl _) ⟨_, hpt, ?_, fun ss' n' r' e => by cases e⟩⟩
          show off [D] H2 t = _
          rw [off_out (by simpa using ne_of ht2 hD (by intro z; cases z))]
          exact ht2
        | out n =>
          have ht2 := s1 _ _ pa
          refine ⟨rfl, _, rfl, t, _, _, _, rfl, rfl, SqT.of ht2, atI_nat (j := 0) rfl, rfl, _, rfl, ?_⟩
          rw [nW2]
          refine iteF ⟨_, rfl, hk _ _ (Same.refl _) ⟨_, hpt, ?_, fun ss' n' r' e => by cases e⟩⟩
          show off [D] H2 t = _
          rw [off_out (by simpa using ne_of ht2 hD (by intro z; cases z))]
          exact ht2
      | _ => exact pa.elim
    · intro ys H1 s1 hD hly hy
      exact q D H1 ys nD s1 hD (by rw [hly, hqH.len]) hy
end
end Song

/-! ### Lw1: a law's draws -/
namespace Song
open PySem L2
/-! #### sizes of numbers -/
def Bits (n : Nat) (c : Int) : Prop := c.natAbs < 2 ^ n
theorem Bits.of_int {n : Nat} {c : Int} (h : Builtin.Int.intBits c ≤ n) : Bits n c := by
  unfold Builtin.Int.intBits at h
  unfold Bits
  by_cases e : c = 0
  · subst e
    exact Nat.two_pow_pos n
  · rw [if_neg (by simpa using e)] at h
    exact (Nat.log2_lt (by omega)).mp (by omega)
theorem Bits.mono {n m : Nat} {c : Int} (h : Bits n c) (hm : n ≤ m) : Bits m c := Nat.lt_of_lt_of_le h (Nat.pow_le_pow_right (by decide) hm)
theorem Bits.small {c : Int} {n : Nat} (h : c.natAbs < 2 ^ 64) (hn : 64 ≤ n) : Bits n c := Bits.mono (n := 64) h hn
theorem Bits.add {n : Nat} {a b : Int} (ha : Bits n a) (hb : Bits n b) : Bits (n + 1) (a + b) := by
  unfold Bits at *
  rw [Nat.pow_succ]
  generalize 2 ^ n = m at *
  omega
theorem Bits.mulOk {n m : Nat} {a b : Int} (ha : Bits n a) (hb : Bits m b) (h : n + m ≤ 100000000) : IntMulOk a b := by
  have f : ∀ {x : Int} {k : Nat}, Bits k x → Builtin.Int.intBits x ≤ k := fun {x k} hx => by
    unfold Builtin.Int.intBits
    split
    · omega
    · rename_i e
      have : x.natAbs ≠ 0 := by
        have : x ≠ 0 := by simpa using e
        omega
      have := (Nat.log2_lt this).mpr hx
      omega
  have h1 := f ha
  have h2 := f hb
  unfold IntMulOk
  intro z
  rw [Bool.and_eq_true] at z
  have z3 := of_decide_eq_true (show decide ((((Builtin.Int.intBits a + Builtin.Int.intBits b : Nat) : Int)) > (bitsLine : Int)) = true from z.2)
  have e : bitsLine = 134217728 := by decide
  rw [e] at z3
  omega
theorem mulS {a b : Int} (h : a.natAbs < 2 ^ 64 ∨ b.natAbs < 2 ^ 64) : IntMulOk a b := by
  rcases h with h | h
  · exact IntMulOk.of_left (intBits_le_64 (by omega) (by omega))
  · exact IntMulOk.of_right (intBits_le_64 (by omega) (by omega))
/-! #### the draws, plainly -/
def cellAt (ns : List Int) (k : Int) : Int := ns.getD k.toNat 0
def primes : List Int := [1000003, 1000033, 1000037, 1000039, 1000081, 1000099, 1000117, 1000121, 1000133, 1000151, 1000159, 1000171, 1000183, 1000187, 1000193, 1000199]
theorem primes_pos : ∀ i : Nat, i < 16 → 0 < primes.getD i 0 := by decide
def lawDraw (c k m : Int) : Int := (c * 48271 + k * 69621) % primes.getD (k % 16).toNat 0 % m
theorem lawDraw_in {c k m : Int} (h : 0 < m) : 0 ≤ lawDraw c k m ∧ lawDraw c k m < m := ⟨Int.emod_nonneg _ (by omega), Int.emod_lt_of_pos _ h⟩
def p18 : Int := 10 ^ (18 : Int).toNat
theorem p18_eq : p18 = 1000000000000000000 := by decide
def lawValue (c t : Int) : Int :=
  if p18 ≤ c then (c - p18) / 2 ^ (3 * t).toNat
  else lawDraw ((c + 977 * t) * (c + 31 * t + 5)) (t % 9 + 1) 999983 * 1000003 + lawDraw ((c + 31 * t) * (c + 7) + 977 * t) (t % 7 + 2) 1000003
theorem lawValue_nn (c t : Int) : 0 ≤ lawValue c t := by
  unfold lawValue
  split
  · exact Int.ediv_nonneg (by omega) (two_pow_nn _)
  · have h1 := (lawDraw_in (c := (c + 977 * t) * (c + 31 * t + 5)) (k := t % 9 + 1) (m := 999983) (by decide)).1
    have h2 := (lawDraw_in (c := (c + 31 * t) * (c + 7) + 977 * t) (k := t % 7 + 2) (m := 1000003) (by decide)).1
    omega
section
variable {P : Program} {w : World} {K : PySem.W.Frag} {mg : Str → Option Value} {base : Heap}
theorem sc__law_cell_at : FnScope ["_law_script", "_law_k"] ["_law_script", "_law_k"] (defScope s__law_cell_at) := ⟨rfl, rfl, rfl, by decide +kernel, rfl, by decide +kernel, by decide +kernel⟩
def sp_cell_at (K : PySem.W.Frag) : Sp := fun vs H Q _ => ∃ (a : Addr) (ns : List Int) (k : Int), vs = [.ref a, .int k] ∧ SqL K H a (ns.map V.int) ∧ 0 ≤ k ∧ Q (.int (cellAt ns k)) H
theorem fn__law_cell_at (T : Tx K mg) : Fn P w K mg base "_law_cell_at" 1 (sp_cell_at K) := by
  obtain ⟨fd, F⟩ := T.d__law_cell_at
  refine ⟨_, fd, _, F.ok (CX := CX0) sc__law_cell_at (fun vs H Q E h => ?_) (fun cdv A outer s H vs Q E hr h => ?_), T.g__law_cell_at, F.kp, F.bindsN fun _ _ _ _ _ _ us hl => match us, hl with | [_, _], _ => rfl⟩
  · obtain ⟨a, ns, k, rfl, _⟩ := h; rfl
  · obtain ⟨a, ns, k, rfl, hs, h0, q⟩ := h
    refine ⟨_, PSs.nox (pss_cons (ps_if (pt_cmpR op_lt (pv 1) (pe_callB (show CallR _ _ (rLenQ K) from call_len_seq) (by rfl) T.len (by decide +kernel) (pa_cons (pv 0) pa_nil)) (nomark _)) (pss_one (ps_ret (pe_ix (show IxR _ (rIxL K) from ix_list) (pv 0) (pv 1) (fun _ _ => rfl)))) pss_nil)
      (pss_one (ps_ret pe_int))), ?_⟩
    refine ⟨_, rfl, _, rfl, a, _, rfl, .inl hs, _, _, rfl, rfl, _, rfl, ?_⟩
    rw [List.length_map]
    by_cases h1 : k < (ns.length : Int)
    · rw [decide_eq_true h1]
      exact iteT ⟨_, rfl, _, rfl, a, _, _, _, rfl, rfl, hs, at_int h0 h1, q⟩
    · rw [decide_eq_false h1]
      refine iteF ?_
      have e : cellAt ns k = 0 := by
        unfold cellAt
        rw [List.getD_eq_getElem?_getD, List.getElem?_eq_none (by omega)]; rfl
      rw [e] at q
      exact q
theorem sc__law_draw : FnScope ["_law_cell", "_law_k", "_law_many", "_law_primes"] ["_law_cell", "_law_k", "_law_many"] (defScope s__law_draw) := ⟨rfl, rfl, rfl, by decide +kernel, rfl, by decide +kernel, by decide +kernel⟩
def sp_draw : Sp := fun vs H Q _ => ∃ c k m : Int, vs = [.int c, .int k, .int m] ∧ 0 < m ∧ ∀ H', Same H H' → Q (.int (lawDraw c k m)) H'
theorem fn__law_draw (T : Tx K mg) : Fn P w K mg base "_law_draw" 1 sp_draw := by
  obtain ⟨fd, F⟩ := T.d__law_draw
  refine ⟨_, fd, _, F.ok (CX := CX0) sc__law_draw (fun vs H Q E h => ?_) (fun cdv A outer s H vs Q E hr h => ?_), T.g__law_draw, F.kp, F.bindsN fun _ _ _ _ _ _ us hl => match us, hl with | [_, _, _], _ => rfl⟩
  · obtain ⟨c, k, m, rfl, _⟩ := h; rfl
  · obtain ⟨c, k, m, rfl, hm, q⟩ := h
    refine ⟨_, PSs.nox (pss_cons (ps_set (i := 3) sc__law_draw.nd rfl (by first | exact Or.inl rfl | exact Or.inr rfl) (pe_tup (pa_cons pe_int (pa_cons pe_int (pa_cons pe_int (pa_cons pe_int (pa_cons pe_int (pa_cons pe_int (pa_cons pe_int (pa_cons pe_int (pa_cons pe_int (pa_cons pe_int (pa_cons pe_int (pa_cons pe_int (pa_cons pe_int (pa_cons pe_int (pa_cons pe_int (pa_cons pe_int pa_nil))))))))))))))))))
      (pss_one (ps_ret (pe_op op_mod (pe_op op_mod (pe_op op_add (pe_op op_mulO (pv 0) pe_int) (pe_op op_mulO (pv 1) pe_int)) (pe_ix (show IxR _ (rIxT K) from ix_tup) (pv 3) (pe_op op_mod (pv 1) pe_int) (fun _ _ => rfl))) (pv 2))))), ?_⟩
    have hk0 := Int.emod_nonneg k (b := 16) (by decide)
    have hk1 := Int.emod_lt_of_pos k (b := 16) (by decide)
    refine ⟨by show 16 ≤ sizeLine; decide, fun t nt => ?_⟩
    refine to_new nt fun H1 s1 ht => ?_
    refine ⟨_, rfl, _, _, rfl, rfl, mulS (.inr (by decide)), _, rfl, _, _, rfl, rfl, mulS (.inr (by decide)), _, _, rfl, rfl,
      _, rfl, _, rfl, _, _, rfl, rfl, (show (0 : Int) < 16 by decide), t, primes.map V.int, _, _, rfl, rfl, SqT.of ht, at_int (ls := primes) hk0 hk1, _, _, rfl, rfl, primes_pos _ (by omega), _, rfl, _, _, rfl, rfl, hm, q _ s1⟩
theorem sc__law_value : FnScope ["_law_cell", "_law_turn", "_law_blend"] ["_law_cell", "_law_turn"] (defScope s__law_value) := ⟨rfl, rfl, rfl, by decide +kernel, rfl, by decide +kernel, by decide +kernel⟩
def sp_value : Sp := fun vs H Q _ => ∃ c t : Int, vs = [.int c, .int t] ∧ Bits 1048600 c ∧ 0 ≤ t ∧ t ≤ 100 ∧ ∀ H', Same H H' → Q (.int (lawValue c t)) H'
theorem fn__law_value (T : Tx K mg) : Fn P w K mg base "_law_value" 2 sp_value := by
  obtain ⟨fd, F⟩ := T.d__law_value
  refine ⟨_, fd, _, F.ok (CX := CX0) sc__law_value (fun vs H Q E h => ?_) (fun cdv A outer s H vs Q E hr h => ?_), T.g__law_value, F.kp, F.bindsN fun _ _ _ _ _ _ us hl => match us, hl with | [_, _], _ => rfl⟩
  · obtain ⟨c, k, rfl, _⟩ := h; rfl
  · obtain ⟨c, t, rfl, hb, h0, h1, q⟩ := h
    refine ⟨_, PSs.nox (pss_cons (ps_if (pt_cmpR op_ge (pv 0) (pe_op op_pow pe_int pe_int) (nomark _)) (pss_one (ps_ret (pe_op op_shr (pe_op op_sub (pv 0) (pe_op op_pow pe_int pe_int)) (pe_op op_mulO pe_int (pv 1))))) pss_nil)
      (pss_cons (ps_set (i := 2) sc__law_value.nd rfl (by first | exact Or.inl rfl | exact Or.inr rfl) (pe_fn (fn__law_draw T) (hr.mono (by first | decide | omega)) (by rfl) (pa_cons (pe_op op_mulO (pe_op op_add (pv 0) (pe_op op_mulO pe_int (pv 1))) (pe_op op_add (pe_op op_add (pv 0) (pe_op op_mulO pe_int (pv 1))) pe_int)) (pa_cons (pe_op op_add (pe_op op_mod (pv 1) pe_int) pe_int) (pa_cons pe_int pa_nil)))))
      (pss_one (ps_ret (pe_op op_add (pe_op op_mulO (pv 2) pe_int) (pe_fn (fn__law_draw T) (hr.mono (by first | decide | omega)) (by rfl) (pa_cons (pe_op op_add (pe_op op_mulO (pe_op op_add (pv 0) (pe_op op_mulO pe_int (pv 1))) (pe_op op_add (pv 0) pe_int)) (pe_op op_mulO pe_int (pv 1))) (pa_cons (pe_op op_add (pe_op op_mod (pv 1) pe_int) pe_int) (pa_cons pe_int pa_nil))))))))), ?_⟩
    have e18 := p18_eq
    refine ⟨_, rfl, _, _, rfl, rfl, ⟨by decide, by decide, by decide⟩, _, _, rfl, rfl, _, rfl, ?_⟩
    by_cases hc : p18 ≤ c
    · have eq : lawValue c t = (c - p18) / 2 ^ (3 * t).toNat := by unfold lawValue; rw [if_pos hc]
      rw [show decide ((10 : Int) ^ (18 : Int).toNat ≤ c) = true from decide_eq_true hc]
      refine iteT ⟨_, rfl, _, _, rfl, rfl, ⟨by decide, by decide, by decide⟩, _, _, rfl, rfl, _, rfl, _, _, rfl, rfl, mulS (.inl (by decide)), _, _, rfl, rfl, (by show 0 ≤ 3 * t; omega), ?_⟩
      rw [eq] at q
      exact q _ (Same.refl _)
    · have eq : lawValue c t = lawDraw ((c + 977 * t) * (c + 31 * t + 5)) (t % 9 + 1) 999983 * 1000003 + lawDraw ((c + 31 * t) * (c + 7) + 977 * t) (t % 7 + 2) 1000003 := by unfold lawValue; rw [if_neg hc]
      rw [show decide ((10 : Int) ^ (18 : Int).toNat ≤ c) = false from decide_eq_false hc]
      have b1 : Bits 1048601 (c + 977 * t) := hb.add (Bits.small (by omega) (by decide))
      have b2 : Bits 1048601 (c + 31 * t) := hb.add (Bits.small (by omega) (by decide))
      have b3 : Bits 1048602 (c + 31 * t + 5) := b2.add (Bits.small (by omega) (by decide))
      have b4 : Bits 1048601 (c + 7) := hb.add (Bits.small (by omega) (by decide))
      refine iteF ?_
      refine ⟨_, rfl, _, rfl, _, _, rfl, rfl, mulS (.inl (by decide)), _, _, rfl, rfl, _, rfl, _, rfl, _, _, rfl, rfl, mulS (.inl (by decide)), _, _, rfl, rfl, _, _, rfl, rfl, _, _, rfl, rfl, b1.mulOk b3 (by decide),
        _, rfl, _, _, rfl, rfl, (show (0 : Int) < 9 by decide), _, _, rfl, rfl, _, _, _, rfl, by decide, fun H1 s1 => ?_⟩
      refine ⟨_, rfl, _, _, rfl, rfl, mulS (.inr (by decide)), _, rfl, _, rfl, _, _, rfl, rfl, mulS (.inl (by decide)), _, _, rfl, rfl, _, rfl, _, _, rfl, rfl, _, _, rfl, rfl, b2.mulOk b4 (by decide),
        _, rfl, _, _, rfl, rfl, mulS (.inl (by decide)), _, _, rfl, rfl, _, rfl, _, _, rfl, rfl, (show (0 : Int) < 7 by decide), _, _, rfl, rfl, _, _, _, rfl, by decide, fun H2 s2 => ?_⟩
      refine ⟨_, _, rfl, rfl, ?_⟩
      rw [eq] at q
      exact q _ (s1.trans s2)
def lawMany (ns : List Int) : Int := 1 + lawValue (cellAt ns 0) 1 % 6
theorem lawMany_in (ns : List Int) : 1 ≤ lawMany ns ∧ lawMany ns ≤ 6 := by
  have h1 := Int.emod_nonneg (lawValue (cellAt ns 0) 1) (b := 6) (by decide)
  have h2 := Int.emod_lt_of_pos (lawValue (cellAt ns 0) 1) (b := 6) (by decide)
  unfold lawMany
  omega
/-- all the cells of a script -/
def Scr (ns : List Int) : Prop := ns.length ≤ 63 ∧ ∀ z ∈ ns, Bits 1048576 z
theorem Scr.cell {ns : List Int} (h : Scr ns) (k : Int) : Bits 1048576 (cellAt ns k) := by
  unfold cellAt
  rw [List.getD_eq_getElem?_getD]
  cases e : ns[k.toNat]? with
  | none => exact Nat.two_pow_pos _
  | some z => exact h.2 z (List.mem_of_getElem? e)
end
def spLaw (K : PySem.W.Frag) : Sp := fun vs H Q _ => ∃ (a : Addr) (ns : List Int), vs = [.ref a] ∧ SqL K H a (ns.map V.int) ∧ Scr ns ∧ ∀ H', Q (.bl true) H'
end Song

/-! ### Lw2: a law's deeds -/
namespace Song
open PySem L2
inductive Deed where
  | wish (ss : List Int)
  | sing
  | out (n : Int)
def DeedAt (H : Hp) : V → Deed → Prop
  | .ref t, .wish ss => ∃ b, H t = some (.tup [.str "wish", .ref b]) ∧ H b = some (.lst (ss.map V.int))
  | .ref t, .sing => H t = some (.tup [.str "sing", .int 0])
  | .ref t, .out n => H t = some (.tup [.str "out", .int n])
  | _, _ => False
theorem DeedAt.mono {H H' : Hp} (s : Same H H') {v : V} {d : Deed} (h : DeedAt H v d) : DeedAt H' v d := by
  cases v with
  | ref t =>
    cases d with
    | wish ss =>
      obtain ⟨b, h1, h2⟩ := h
      exact ⟨b, s _ _ h1, s _ _ h2⟩
    | sing => exact s _ _ h
    | out n => exact s _ _ h
  | _ => exact h.elim
def DeedOk (many : Int) : Deed → Prop
  | .wish ss => areSingers ss many = true
  | .sing => True
  | .out n => 0 ≤ n
/-- a list of good deeds in the heap -/
def Deeds (H : Hp) (many : Int) (vs : List V) : Prop := ∀ v ∈ vs, ∃ d, DeedAt H v d ∧ DeedOk many d
theorem Deeds.mono {H H' : Hp} {many : Int} {vs : List V} (s : Same H H') (h : Deeds H many vs) : Deeds H' many vs := fun v hv => by
  obtain ⟨d, h1, h2⟩ := h v hv
  exact ⟨d, h1.mono s, h2⟩
theorem Deeds.snoc {H : Hp} {many : Int} {vs : List V} {v : V} {d : Deed} (h : Deeds H many vs) (h1 : DeedAt H v d) (h2 : DeedOk many d) : Deeds H many (vs ++ [v]) := fun u hu => by
  rcases List.mem_append.mp hu with q | q
  · exact h u q
  · rw [List.mem_singleton.mp q]; exact ⟨d, h1, h2⟩
section
variable {P : Program} {w : World} {K : PySem.W.Frag} {mg : Str → Option Value} {base : Heap}
end
end Song

/-! ### Lw3: the law's own state of an evening, a dict -/
namespace Song
open PySem L2
def stD (A : Ad) (g : Int) : List (Key × V) := [(.inr "rounds", .ref A.ro), (.inr "last", .ref A.la), (.inr "going", .int g), (.inr "waits", .ref A.wa), (.inr "tale", .ref A.ca)]
theorem stD_last (A : Ad) (g : Int) : valV (stD A g) (.inr "last") = some (.ref A.la) := by kernel_rfl
theorem stD_going (A : Ad) (g : Int) : valV (stD A g) (.inr "going") = some (.int g) := by kernel_rfl
theorem stD_rounds (A : Ad) (g : Int) : valV (stD A g) (.inr "rounds") = some (.ref A.ro) := by kernel_rfl
theorem stD_waits (A : Ad) (g : Int) : valV (stD A g) (.inr "waits") = some (.ref A.wa) := by kernel_rfl
theorem stD_tale (A : Ad) (g : Int) : valV (stD A g) (.inr "tale") = some (.ref A.ca) := by kernel_rfl
theorem stD_put (A : Ad) (g g' : Int) : putK (stD A g) (.inr "going") (.int g') = stD A g' := by kernel_rfl
structure LC (H : Hp) (p : Addr) (A : Ad) (last : List Int) (going : Int) (rounds waiting : List Int) (cs : List V) : Prop where
  pp : H p = some (.dK (stD A going))
  la : H A.la = some (.lst (last.map V.int))
  ro : H A.ro = some (.lst (rounds.map V.int))
  wa : H A.wa = some (.lst (waiting.map V.int))
  ca : H A.ca = some (.lst cs)
  nd : (own p A).Nodup
section
variable {H H' : Hp} {p : Addr} {A : Ad} {last : List Int} {going : Int} {rounds waiting : List Int} {cs : List V}
theorem LC.gLast (c : LC H p A last going rounds waiting cs) : DGet H p (.str "last") (some (.ref A.la)) := by rw [← stD_last A going]; exact DGet.k (k := Sum.inr "last") c.pp
theorem LC.gGoing (c : LC H p A last going rounds waiting cs) : DGet H p (.str "going") (some (.int going)) := by rw [← stD_going A going]; exact DGet.k (k := Sum.inr "going") c.pp
theorem LC.gRounds (c : LC H p A last going rounds waiting cs) : DGet H p (.str "rounds") (some (.ref A.ro)) := by rw [← stD_rounds A going]; exact DGet.k (k := Sum.inr "rounds") c.pp
theorem LC.gWaits (c : LC H p A last going rounds waiting cs) : DGet H p (.str "waits") (some (.ref A.wa)) := by rw [← stD_waits A going]; exact DGet.k (k := Sum.inr "waits") c.pp
theorem LC.gTale (c : LC H p A last going rounds waiting cs) : DGet H p (.str "tale") (some (.ref A.ca)) := by rw [← stD_tale A going]; exact DGet.k (k := Sum.inr "tale") c.pp
theorem LC.mono (s : Same H H') (c : LC H p A last going rounds waiting cs) : LC H' p A last going rounds waiting cs := by
  obtain ⟨h1, h2, h3, h4, h5, nd⟩ := c
  exact ⟨s _ _ h1, s _ _ h2, s _ _ h3, s _ _ h4, s _ _ h5, nd⟩
theorem LC.ne (c : LC H p A last going rounds waiting cs) : p ≠ A.la ∧ p ≠ A.ro ∧ p ≠ A.wa ∧ p ≠ A.ca ∧ A.la ≠ A.ro ∧ A.la ≠ A.wa ∧ A.la ≠ A.ca ∧ A.ro ≠ A.wa ∧ A.ro ≠ A.ca ∧ A.wa ≠ A.ca := by
  have h := c.nd
  unfold own at h
  simp only [List.nodup_cons, List.mem_cons, List.not_mem_nil, or_false, not_or] at h
  obtain ⟨⟨a1, a2, a3, a4⟩, ⟨b1, b2, b3⟩, ⟨c1, c2⟩, d1, _⟩ := h
  exact ⟨a1, a2, a3, a4, b1, b2, b3, c1, c2, d1⟩
theorem LC.putLa (c : LC H p A last going rounds waiting cs) (l : List Int) : LC (upd H A.la (.lst (l.map V.int))) p A l going rounds waiting cs := by
  obtain ⟨a1, a2, a3, a4, b1, b2, b3, c1, c2, d1⟩ := c.ne
  obtain ⟨h1, h2, h3, h4, h5, nd⟩ := c
  exact ⟨by rw [upd_ne a1]; exact h1, upd_same, by rw [upd_ne b1.symm]; exact h3, by rw [upd_ne b2.symm]; exact h4, by rw [upd_ne b3.symm]; exact h5, nd⟩
theorem LC.putRo (c : LC H p A last going rounds waiting cs) (l : List Int) : LC (upd H A.ro (.lst (l.map V.int))) p A last going l waiting cs := by
  obtain ⟨a1, a2, a3, a4, b1, b2, b3, c1, c2, d1⟩ := c.ne
  obtain ⟨h1, h2, h3, h4, h5, nd⟩ := c
  exact ⟨by rw [upd_ne a2]; exact h1, by rw [upd_ne b1]; exact h2, upd_same, by rw [upd_ne c1.symm]; exact h4, by rw [upd_ne c2.symm]; exact h5, nd⟩
theorem LC.putWa (c : LC H p A last going rounds waiting cs) (l : List Int) : LC (upd H A.wa (.lst (l.map V.int))) p A last going rounds l cs := by
  obtain ⟨a1, a2, a3, a4, b1, b2, b3, c1, c2, d1⟩ := c.ne
  obtain ⟨h1, h2, h3, h4, h5, nd⟩ := c
  exact ⟨by rw [upd_ne a3]; exact h1, by rw [upd_ne b2]; exact h2, by rw [upd_ne c1]; exact h3, upd_same, by rw [upd_ne d1.symm]; exact h5, nd⟩
theorem LC.putCa (c : LC H p A last going rounds waiting cs) (l : List V) : LC (upd H A.ca (.lst l)) p A last going rounds waiting l := by
  obtain ⟨a1, a2, a3, a4, b1, b2, b3, c1, c2, d1⟩ := c.ne
  obtain ⟨h1, h2, h3, h4, h5, nd⟩ := c
  exact ⟨by rw [upd_ne a4]; exact h1, by rw [upd_ne b3]; exact h2, by rw [upd_ne c2]; exact h3, by rw [upd_ne d1]; exact h4, upd_same, nd⟩
theorem LC.putGo (c : LC H p A last going rounds waiting cs) (g : Int) : LC (upd H p (.dK (stD A g))) p A last g rounds waiting cs := by
  obtain ⟨a1, a2, a3, a4, b1, b2, b3, c1, c2, d1⟩ := c.ne
  obtain ⟨_, h2, h3, h4, h5, nd⟩ := c
  exact ⟨upd_same, by rw [upd_ne a1.symm]; exact h2, by rw [upd_ne a2.symm]; exact h3, by rw [upd_ne a3.symm]; exact h4, by rw [upd_ne a4.symm]; exact h5, nd⟩
end
section
variable {H : Hp} {p : Addr} {A : Ad} {last : List Int} {going : Int} {rounds waiting : List Int} {cs : List V} {Q : Hp → Prop}
@[elab_as_elim] theorem to_laL (c : LC H p A last going rounds waiting cs) (l : List Int) (h : ∀ H', Fra (own p A) H H' → LC H' p A l going rounds waiting cs → Q H') : Q (upd H A.la (.lst (l.map V.int))) :=
  h _ (Fra.put (memA p A).2.1) (c.putLa l)
@[elab_as_elim] theorem to_roL (c : LC H p A last going rounds waiting cs) (l : List Int) (h : ∀ H', Fra (own p A) H H' → LC H' p A last going l waiting cs → Q H') : Q (upd H A.ro (.lst (l.map V.int))) :=
  h _ (Fra.put (memA p A).2.2.1) (c.putRo l)
@[elab_as_elim] theorem to_waL (c : LC H p A last going rounds waiting cs) (l : List Int) (h : ∀ H', Fra (own p A) H H' → LC H' p A last going rounds l cs → Q H') : Q (upd H A.wa (.lst (l.map V.int))) :=
  h _ (Fra.put (memA p A).2.2.2.1) (c.putWa l)
@[elab_as_elim] theorem to_caL (c : LC H p A last going rounds waiting cs) (l : List V) (h : ∀ H', Fra (own p A) H H' → LC H' p A last going rounds waiting l → (∀ b o, b ≠ A.ca → H b = some o → H' b = some o) → Q H') : Q (upd H A.ca (.lst l)) :=
  h _ (Fra.put (memA p A).2.2.2.2) (c.putCa l) fun b o n e => by rw [upd_ne n]; exact e
@[elab_as_elim] theorem to_goL (c : LC H p A last going rounds waiting cs) (g : Int) (h : ∀ H', Fra (own p A) H H' → LC H' p A last g rounds waiting cs → Q H') : Q (upd H p (.dK (stD A g))) :=
  h _ (Fra.put (memA p A).1) (c.putGo g)
end
theorem LC.dom {H H' : Hp} {p : Addr} {A : Ad} {last : List Int} {going : Int} {rounds waiting : List Int} {cs : List V} {S : List Addr} (c : LC H' p A last going rounds waiting cs) (f : Fra (own p A) H H')
    (d : ∀ a ∈ S, ∃ o, H a = some o) : ∀ a ∈ S, ∃ o, H' a = some o := fun a ha => by
  by_cases q : a ∈ own p A
  · unfold own at q
    simp only [List.mem_cons, List.not_mem_nil, or_false] at q
    rcases q with e | e | e | e | e
    · rw [e]; exact ⟨_, c.pp⟩
    · rw [e]; exact ⟨_, c.la⟩
    · rw [e]; exact ⟨_, c.ro⟩
    · rw [e]; exact ⟨_, c.wa⟩
    · rw [e]; exact ⟨_, c.ca⟩
  · obtain ⟨o, h⟩ := d a ha
    exact ⟨o, f a o q h⟩
/-- the dict at p tells st -/
structure Ls (S : List Addr) (H : Hp) (p : Addr) (A : Ad) (st : EvS) : Prop where
  cell : ∃ cs, LC H p A st.last st.going st.rounds st.waiting cs ∧ Parts (off S H) cs st.tale
  sub : ∀ a ∈ own p A, a ∈ S
  dom : ∀ a ∈ S, ∃ o, H a = some o
  few : st.tale.length ≤ 900
theorem Ls.mono {S : List Addr} {H H' : Hp} {p : Addr} {A : Ad} {st : EvS} (s : Same H H') (e : Ls S H p A st) : Ls S H' p A st := by
  obtain ⟨⟨cs, c, q⟩, sub, dom, few⟩ := e
  refine ⟨⟨cs, c.mono s, q.mono (off_mono s)⟩, sub, fun a ha => ?_, few⟩
  obtain ⟨o, h⟩ := dom a ha
  exact ⟨o, s _ _ h⟩
section
variable {P : Program} {w : World} {K : PySem.W.Frag} {mg : Str → Option Value} {base : Heap}
end
end Song

/-! ### Lw4: deeds done to the law's own state -/
namespace Song
open PySem L2
section
variable {P : Program} {w : World} {K : PySem.W.Frag} {mg : Str → Option Value} {base : Heap}
end
end Song

/-! ### Fr1: deeds, frames, the making of an evening -/
namespace Song
open PySem L2
def doDeed (st : EvS) : Deed → EvS
  | .wish ss => if st.rounds.length = 24 then st else st.wish ss
  | .sing => st.sing
  | .out n => if st.waiting = [] then st else st.out (st.waiting.getD (n % (st.waiting.length : Int)).toNat 0)
theorem EvS.sing_last (st : EvS) : st.sing.last = st.last := by
  unfold EvS.sing
  cases st.next <;> rfl
theorem doDeed_last (st : EvS) (d : Deed) : (doDeed st d).last.length = st.last.length := by
  cases d with
  | wish ss =>
    simp only [doDeed]
    split
    · rfl
    · exact setAll_len _ _ _
  | sing => rw [show doDeed st .sing = st.sing from rfl, EvS.sing_last]
  | out n =>
    simp only [doDeed]
    split <;> rfl
theorem doDeed_ok {st : EvS} {d : Deed} {m : Int} (h : EvOk st) (hd : DeedOk m d) : EvOk (doDeed st d) := by
  cases d with
  | wish ss =>
    simp only [doDeed]
    split
    · exact h
    · exact h.wish (by have := h.r24; omega) (areS_len hd).2.1
  | sing => exact h.sing
  | out n =>
    simp only [doDeed]
    split
    · exact h
    · exact h.out _
theorem sing_tale (st : EvS) : st.sing.tale.length = st.tale.length + 1 := by
  unfold EvS.sing
  cases st.next <;> simp
theorem doDeed_tale (st : EvS) (d : Deed) : (doDeed st d).tale.length ≤ st.tale.length + 1 := by
  cases d with
  | wish ss =>
    simp only [doDeed]
    split
    · omega
    · show (st.tale ++ [_]).length ≤ _
      simp
  | sing =>
    have := sing_tale st
    show st.sing.tale.length ≤ _
    omega
  | out n =>
    simp only [doDeed]
    split
    · omega
    · show (st.tale ++ [_]).length ≤ _
      simp
/-- two owners' cells stand apart -/
def Dj (p : Addr) (A : Ad) (d : Addr) (B : Ad) : Prop := ∀ a ∈ own d B, a ∉ own p A
theorem Dj.symm {p d : Addr} {A B : Ad} (h : Dj p A d B) : Dj d B p A := fun a h1 h2 => h a h2 h1
section
variable {K : PySem.W.Frag} {S S' X : List Addr} {H H' : Hp} {d : Addr} {B : Ad} {st : EvS}
theorem Ls.fra (ls : Ls S H d B st) (f : Fra X H H') (sub : ∀ a ∈ X, a ∈ S) (dom : ∀ a ∈ S, ∃ o, H' a = some o) (dj : ∀ a ∈ own d B, a ∉ X) : Ls S H' d B st := by
  obtain ⟨⟨cs, c, q⟩, sub2, _, few⟩ := ls
  obtain ⟨m1, m2, m3, m4, m5⟩ := memA d B
  exact ⟨⟨cs, ⟨f _ _ (dj _ m1) c.pp, f _ _ (dj _ m2) c.la, f _ _ (dj _ m3) c.ro, f _ _ (dj _ m4) c.wa, f _ _ (dj _ m5) c.ca, c.nd⟩, q.mono (Fra.off (f.mono sub))⟩, sub2, dom, few⟩
theorem Ev.fra (ev : Ev K S H d B st) (f : Fra X H H') (sub : ∀ a ∈ X, a ∈ S) (dom : ∀ a ∈ S, ∃ o, H' a = some o) (dj : ∀ a ∈ own d B, a ∉ X) : Ev K S H' d B st := by
  obtain ⟨⟨cs, c, q⟩, sub2, _, few⟩ := ev
  obtain ⟨m1, m2, m3, m4, m5⟩ := memA d B
  obtain ⟨dx, hp⟩ := c.pp
  exact ⟨⟨cs, ⟨⟨dx, f _ _ (dj _ m1) hp⟩, f _ _ (dj _ m2) c.la, f _ _ (dj _ m3) c.ro, f _ _ (dj _ m4) c.wa, f _ _ (dj _ m5) c.ca, c.nd⟩, q.mono (Fra.off (f.mono sub))⟩, sub2, dom, few⟩
theorem off_less (h : ∀ a ∈ S, a ∈ S') : Same (off S' H) (off S H) := fun b o e => by
  obtain ⟨n, e⟩ := off_some e
  rw [off_out (fun z => n (h _ z))]; exact e
theorem off_more (s : Same H H') (c : ∀ a ∈ S', a ∈ S ∨ H a = none) : Same (off S H) (off S' H') := fun b o e => by
  obtain ⟨n, e⟩ := off_some e
  rw [off_out (fun z => by
    rcases c b z with q | q
    · exact n q
    · rw [q] at e; cases e)]
  exact s _ _ e
theorem Ev.shrink (ev : Ev K S' H d B st) (h : ∀ a ∈ S, a ∈ S') (sub : ∀ a ∈ own d B, a ∈ S) : Ev K S H d B st := by
  obtain ⟨⟨cs, c, q⟩, _, dom, few⟩ := ev
  exact ⟨⟨cs, c, q.mono (off_less h)⟩, sub, fun a ha => dom a (h a ha), few⟩
theorem Ls.shrink (ev : Ls S' H d B st) (h : ∀ a ∈ S, a ∈ S') (sub : ∀ a ∈ own d B, a ∈ S) : Ls S H d B st := by
  obtain ⟨⟨cs, c, q⟩, _, dom, few⟩ := ev
  exact ⟨⟨cs, c, q.mono (off_less h)⟩, sub, fun a ha => dom a (h a ha), few⟩
theorem Ev.grow (ev : Ev K S H d B st) (s : Same H H') (h : ∀ a ∈ S, a ∈ S') (c : ∀ a ∈ S', a ∈ S ∨ H a = none) (dom : ∀ a ∈ S', ∃ o, H' a = some o) : Ev K S' H' d B st := by
  obtain ⟨⟨cs, c1, q⟩, sub, _, few⟩ := ev
  exact ⟨⟨cs, c1.mono s, q.mono (off_more s c)⟩, fun a ha => h a (sub a ha), dom, few⟩
theorem Ls.grow (ev : Ls S H d B st) (s : Same H H') (h : ∀ a ∈ S, a ∈ S') (c : ∀ a ∈ S', a ∈ S ∨ H a = none) (dom : ∀ a ∈ S', ∃ o, H' a = some o) : Ls S' H' d B st := by
  obtain ⟨⟨cs, c1, q⟩, sub, _, few⟩ := ev
  exact ⟨⟨cs, c1.mono s, q.mono (off_more s c)⟩, fun a ha => h a (sub a ha), dom, few⟩
end
theorem nS1 : decide (V.str "wish" = V.str "sing") = false := by decide +kernel
theorem nO1 : decide (V.str "wish" = V.str "out") = false := by decide +kernel
theorem nO2 : decide (V.str "sing" = V.str "out") = false := by decide +kernel
theorem nS2 : decide (V.str "out" = V.str "sing") = false := by decide +kernel
theorem Cells.domOwn {C : Addr} {H : Hp} {p : Addr} {A : Ad} {last : List Int} {going : Int} {rounds waiting : List Int} {cs : List V} (c : Cells C H p A last going rounds waiting cs) : ∀ a ∈ own p A, ∃ o, H a = some o := fun a q => by
  unfold own at q
  simp only [List.mem_cons, List.not_mem_nil, or_false] at q
  obtain ⟨dx, hp⟩ := c.pp
  rcases q with e | e | e | e | e
  · rw [e]; exact ⟨_, hp⟩
  · rw [e]; exact ⟨_, c.la⟩
  · rw [e]; exact ⟨_, c.ro⟩
  · rw [e]; exact ⟨_, c.wa⟩
  · rw [e]; exact ⟨_, c.ca⟩
theorem LC.domOwn {H : Hp} {p : Addr} {A : Ad} {last : List Int} {going : Int} {rounds waiting : List Int} {cs : List V} (c : LC H p A last going rounds waiting cs) : ∀ a ∈ own p A, ∃ o, H a = some o := fun a q => by
  unfold own at q
  simp only [List.mem_cons, List.not_mem_nil, or_false] at q
  rcases q with e | e | e | e | e
  · rw [e]; exact ⟨_, c.pp⟩
  · rw [e]; exact ⟨_, c.la⟩
  · rw [e]; exact ⟨_, c.ro⟩
  · rw [e]; exact ⟨_, c.wa⟩
  · rw [e]; exact ⟨_, c.ca⟩
/-- an evening just made -/
theorem Ev.made {K : PySem.W.Frag} {H : Hp} {p : Addr} {A : Ad} {n : Int} (c : Cells (He.ga K "Evening") H p A (List.replicate n.toNat 0) 1 [] [] []) : Ev K (own p A) H p A (evNew n) :=
  ⟨⟨[], c, trivial⟩, fun _ h => h, c.domOwn, by show 0 ≤ 900; decide⟩
/-- a part whose inner list is one's own: it may have grown -/
def MutP (H0 : Hp) (l2 : Addr) (n : Nat) (H : Hp) (v : V) : Prop :=
  (∃ (t b : Addr) (x y : V) (xs : List V), v = .ref t ∧ H t = some (.tup [.str "wish", .ref b, x, y]) ∧ H0 b = none ∧ b ≠ l2 ∧ H b = some (.lst xs) ∧ xs.length ≤ 3 + n) ∨
  (∃ (t : Addr) (s : Str) (x : V), v = .ref t ∧ H t = some (.tup [.str s, x]) ∧ decide (V.str s = V.str "wish") = false)
theorem MutP.mono {H0 : Hp} {l2 : Addr} {n : Nat} {H H' : Hp} {v : V} (s : Same H H') (h : MutP H0 l2 n H v) : MutP H0 l2 n H' v := by
  rcases h with ⟨t, b, x, y, xs, h1, h2, h3, h4, h5, h6⟩ | ⟨t, z, x, h1, h2, h3⟩
  · exact .inl ⟨t, b, x, y, xs, h1, s _ _ h2, h3, h4, s _ _ h5, h6⟩
  · exact .inr ⟨t, z, x, h1, s _ _ h2, h3⟩
theorem MutP.up {H0 : Hp} {l2 : Addr} {n : Nat} {H : Hp} {v : V} (h : MutP H0 l2 n H v) : MutP H0 l2 (n + 1) H v := by
  rcases h with ⟨t, b, x, y, xs, h1, h2, h3, h4, h5, h6⟩ | h
  · exact .inl ⟨t, b, x, y, xs, h1, h2, h3, h4, h5, by omega⟩
  · exact .inr h
theorem MutP.put {H0 : Hp} {l2 : Addr} {n : Nat} {H : Hp} {v : V} {c : Addr} {xs : List V} (hc : H c = some (.lst xs)) (hl : xs.length ≤ 3 + n) (y0 : V) (h : MutP H0 l2 n H v) : MutP H0 l2 (n + 1) (upd H c (.lst (xs ++ [y0]))) v := by
  rcases h with ⟨t, b, x, y, ys, h1, h2, h3, h4, h5, h6⟩ | ⟨t, z, x, h1, h2, h3⟩
  · have ntc : t ≠ c := ne_of h2 hc (by intro q; cases q)
    by_cases e : b = c
    · subst e
      exact .inl ⟨t, b, x, y, _, h1, by rw [upd_ne ntc]; exact h2, h3, h4, upd_same, by rw [List.length_append, List.length_singleton]; omega⟩
    · exact .inl ⟨t, b, x, y, ys, h1, by rw [upd_ne ntc]; exact h2, h3, h4, by rw [upd_ne e]; exact h5, by omega⟩
  · have ntc : t ≠ c := ne_of h2 hc (by intro q; cases q)
    exact .inr ⟨t, z, x, h1, by rw [upd_ne ntc]; exact h2, h3⟩
theorem PartN.mut {H0 H : Hp} {l2 : Addr} {v : V} {p : Part} (h : PartN H0 (off [l2] H) v p) (h3 : ∀ ss n r, p = .wish ss n r → ss.length ≤ 3) : MutP H0 l2 0 H v := by
  obtain ⟨pa, pn⟩ := h
  cases v with
  | ref t =>
    cases p with
    | wish ss n r =>
      obtain ⟨t', b, e, h1, h2, h4⟩ := pn ss n r rfl
      cases e
      obtain ⟨nb, hb⟩ := off_some h2
      exact .inl ⟨t, b, _, _, _, rfl, (off_some h1).2, h4, by simpa using nb, hb, by rw [List.length_map]; exact h3 ss n r rfl⟩
    | sing o => exact .inr ⟨t, _, _, rfl, (off_some pa).2, nW1⟩
    | out n => exact .inr ⟨t, _, _, rfl, (off_some pa).2, nW2⟩
  | _ => exact pa.elim
theorem eqv_tale (ps : List Part) : PyData.eqv (.list (ps.map Part.data)) (.list (ps.map Part.data)) = true := eqv_self (shp_tale ps)
section
variable {K : PySem.W.Frag}
theorem Ev.pp {S : List Addr} {H : Hp} {p : Addr} {A : Ad} {st : EvS} (e : Ev K S H p A st) : ∃ dx, H p = some (.ins (He.ga K "Evening") dx (evF A st.going)) := by
  obtain ⟨cs, c, _⟩ := e.cell
  exact c.pp
theorem Ls.tale {S : List Addr} {H : Hp} {p : Addr} {A : Ad} {st : EvS} (e : Ls S H p A st) : Dp K H (.ref A.ca) (.list (st.tale.map Part.data)) := by
  obtain ⟨cs, c, q⟩ := e.cell
  exact .lst (SqL.of c.ca) (q.mono (off_le S H)).dp
theorem told_dp {H0 H : Hp} {l : Addr} {cs : List V} {ps : List Part} (hl : H l = some (.lst cs)) (he : cs.length = ps.length) (h : ∀ (i : Nat) v, cs[i]? = some v → ∃ q, ps[i]? = some q ∧ PartN H0 (off [l] H) v q) :
    Dp K H (.ref l) (.list (ps.map Part.data)) :=
  .lst (SqL.of hl) (Parts.mono (off_le [l] H) (Parts.of he fun i v e => by
    obtain ⟨q, h1, h2⟩ := h i v e
    exact ⟨q, h1, h2.1⟩)).dp
end
end Song

/-! ### Pl3: a tale gone over, plainly -/
namespace Song
open PySem L2
/-- a part that can come now, done -/
def stepPart (st : EvS) : Part → Option EvS
  | .wish ss n r => if areSingers ss st.last.length = true ∧ st.rounds.length < 24 ∧ n = (st.rounds.length : Int) ∧ r = st.num ss then some (st.wish ss) else none
  | .sing o => if st.next = o then some st.sing else none
  | .out n => if n ∈ st.waiting then some (st.out n) else none
def firstFrom (st : EvS) (i : Int) : List Part → Int
  | [] => -1
  | p :: r => match stepPart st p with
    | none => i
    | some st' => firstFrom st' (i + 1) r
def firstWrong (many : Int) (tale : List Part) : Int := firstFrom (evNew many) 0 tale
theorem firstFrom_none {st : EvS} {i : Int} {p : Part} {r : List Part} (h : stepPart st p = none) : firstFrom st i (p :: r) = i := by
  show (match stepPart st p with | none => i | some st' => firstFrom st' (i + 1) r) = i
  rw [h]
theorem firstFrom_some {st st' : EvS} {i : Int} {p : Part} {r : List Part} (h : stepPart st p = some st') : firstFrom st i (p :: r) = firstFrom st' (i + 1) r := by
  show (match stepPart st p with | none => i | some st' => firstFrom st' (i + 1) r) = _
  rw [h]
theorem stepPart_ok {st st' : EvS} {p : Part} (h : stepPart st p = some st') (ok : EvOk st) : EvOk st' ∧ st'.last.length = st.last.length ∧ st'.tale.length = st.tale.length + 1 := by
  cases p with
  | wish ss n r =>
    simp only [stepPart] at h
    split at h
    · rename_i c
      cases h
      exact ⟨ok.wish c.2.1 (areS_len c.1).2.1, setAll_len _ _ _, by show (st.tale ++ [_]).length = _; simp⟩
    · cases h
  | sing o =>
    simp only [stepPart] at h
    split at h
    · cases h
      exact ⟨ok.sing, by rw [EvS.sing_last], sing_tale st⟩
    · cases h
  | out n =>
    simp only [stepPart] at h
    split at h
    · cases h
      exact ⟨ok.out n, rfl, by show (st.tale ++ [_]).length = _; simp⟩
    · cases h
theorem firstFrom_lo (st : EvS) : ∀ (r : List Part) (st : EvS) (i : Int), 0 ≤ i → firstFrom st i r = -1 ∨ (i ≤ firstFrom st i r ∧ firstFrom st i r < i + r.length)
  | [], _, _, _ => .inl rfl
  | p :: r, st, i, hi => by
    cases e : stepPart st p with
    | none => rw [firstFrom_none e]; exact .inr ⟨Int.le_refl _, by rw [List.length_cons]; omega⟩
    | some st' =>
      rw [firstFrom_some e]
      rcases firstFrom_lo st r st' (i + 1) (by omega) with h | h
      · exact .inl h
      · exact .inr ⟨by omega, by rw [List.length_cons]; omega⟩
theorem firstWrong_ge (many : Int) (tale : List Part) : firstWrong many tale = -1 ∨ (0 ≤ firstWrong many tale ∧ firstWrong many tale < tale.length) := by
  rcases firstFrom_lo (evNew many) tale (evNew many) 0 (by decide) with h | h
  · exact .inl h
  · refine .inr ⟨h.1, ?_⟩
    have := h.2
    unfold firstWrong
    omega
end Song

/-! ### An1: first_wrong, and the answers Right, Wrong -/
namespace Song
open PySem L2
section
variable {P : Program} {w : World} {K : PySem.W.Frag} {mg : Str → Option Value} {base : Heap}
theorem sc_first_wrong : FnScope ["many", "tale", "evening", "place", "part"] ["many", "tale"] (defScope s_first_wrong) := ⟨rfl, rfl, rfl, by decide +kernel, rfl, by decide +kernel, by decide +kernel⟩
/-- tales of wishes with no more than 300 singers each -/
def TaleOk (tale : List Part) : Prop := tale.length ≤ 300 ∧ ∀ ss n r, Part.wish ss n r ∈ tale → ss.length ≤ 1000
def sp_first_wrong (K : PySem.W.Frag) : Sp := fun vs H Q _ => ∃ (many : Int) (a : Addr) (cs : List V) (tale : List Part), vs = [.int many, .ref a] ∧ 1 ≤ many ∧ many ≤ 6 ∧ SqL K H a cs ∧ Parts H cs tale ∧ TaleOk tale ∧
  ∀ H', Same H H' → Q (.int (firstWrong many tale)) H'
theorem fn_first_wrong (T : Tx K mg) : Fn P w K mg base "first_wrong" 5 (sp_first_wrong K) := by
  obtain ⟨fd, F⟩ := T.d_first_wrong
  refine ⟨_, fd, _, F.ok (CX := CX0) sc_first_wrong (fun vs H Q E h => ?_) (fun cdv A outer s H vs Q E hr h => ?_), T.g_first_wrong, F.kp, F.bindsN fun _ _ _ _ _ _ us hl => match us, hl with | [_, _], _ => rfl⟩
  · obtain ⟨many, a, cs, tale, rfl, _⟩ := h; rfl
  · obtain ⟨many, a, cs, tale, rfl, m1, m6, hs, hP, tok, q⟩ := h
    refine ⟨_, PSs.nox (pss_cons (ps_set (i := 2) sc_first_wrong.nd rfl (by first | exact Or.inl rfl | exact Or.inr rfl) (pe_mk (mk_Evening T) (hr.mono (by first | decide | omega)) (by rfl) (pa_cons (pv 0) pa_nil)))
      (pss_cons (ps_for PassesOwn.never rfl (show PI _ _ _ (iEnum K _) from pi_enum (by rfl) T.enumerate (pa_cons (pv 1) pa_nil)) (show PG _ _ (gTup K _ _) from pg_tup rfl (pgs_cons (pg_name (i := 3) sc_first_wrong.nd rfl (by first | exact Or.inl rfl | exact Or.inr rfl)) (pgs_cons (pg_name (i := 4) sc_first_wrong.nd rfl (by first | exact Or.inl rfl | exact Or.inr rfl)) pgs_nil)))
      (pss_one (ps_if (pt_cmpR op_eq (pe_ix (show IxR _ (rIxT K) from ix_tup) (pv 4) pe_int (fun _ _ => rfl)) pe_str (nomark _)) (pss_cons (ps_if (PW.pt (pw_or (pt_not (pt_val (pe_fn (fn_are_singers T) (hr.mono (by first | decide | omega)) (by rfl) (pa_cons (pe_ix (show IxR _ (rIxT K) from ix_tup) (pv 4) pe_int (fun _ _ => rfl)) (pa_cons (pv 0) pa_nil))))) (pw_or1 (pt_cmpR op_eq (pe_callB (show CallR _ _ (rLenQ K) from call_len_seq) (by rfl) T.len (by decide +kernel) (pa_cons (show PE _ _ (tFld K _ _) from pe_fld (pv 2) rfl) pa_nil)) (pe_gi T.c_MOST_SONGS (by rfl)) (nomark _))))) (pss_one (ps_ret (pv 3))) pss_nil)
      (pss_one (ps_if (pt_cmpR (show OpR _ _ (rNeD K) from op_neD hr.units) (pe_me (me_Evening_wish T) (hr.mono (by first | decide | omega)) (pv 2) (pa_cons (pe_ix (show IxR _ (rIxT K) from ix_tup) (pv 4) pe_int (fun _ _ => rfl)) pa_nil)) (pe_tup (pa_cons (pe_ix (show IxR _ (rIxT K) from ix_tup) (pv 4) pe_int (fun _ _ => rfl)) (pa_cons (pe_ix (show IxR _ (rIxT K) from ix_tup) (pv 4) pe_int (fun _ _ => rfl)) pa_nil))) (nomark _)) (pss_one (ps_ret (pv 3))) pss_nil))) (pss_one (ps_if (pt_cmpR op_eq (pe_ix (show IxR _ (rIxT K) from ix_tup) (pv 4) pe_int (fun _ _ => rfl)) pe_str (nomark _)) (pss_one (ps_if (pt_cmpR (show OpR _ _ (rNeD K) from op_neD hr.units) (pe_me0 (me_Evening_sing T) (hr.mono (by first | decide | omega)) (pv 2)) (pe_ix (show IxR _ (rIxT K) from ix_tup) (pv 4) pe_int (fun _ _ => rfl)) (nomark _)) (pss_one (ps_ret (pv 3))) pss_nil)) (pss_cons (ps_if (pt_cmpR (show OpR _ _ (rIn K true) from op_notIn_seq) (pe_ix (show IxR _ (rIxT K) from ix_tup) (pv 4) pe_int (fun _ _ => rfl)) (show PE _ _ (tFld K _ _) from pe_fld (pv 2) rfl) (by rfl)) (pss_one (ps_ret (pv 3))) pss_nil)
      (pss_one (ps_expr (pe_me (me_Evening_withdraw T) (hr.mono (by first | decide | omega)) (pv 2) (pa_cons (pe_ix (show IxR _ (rIxT K) from ix_tup) (pv 4) pe_int (fun _ _ => rfl)) pa_nil))))))))))
      (pss_one (ps_ret (pe_un un_neg pe_int))))), ?_⟩
    refine ⟨_, rfl, fun p dx np ndx ned => ?_⟩
    refine ⟨p, dx, _, rfl, m1, m6, upd_same, fun H1 A' f1 c1 a1 a2 a3 a4 => ⟨rfl, ?_⟩⟩
    have s1 : Same H H1 := made_same np ndx f1
    have ev1 : Ev K (own p A') H1 p A' (evNew many) := Ev.made c1
    have nS : ∀ x ∈ own p A', H x = none := fun x hx => by
      unfold own at hx
      simp only [List.mem_cons, List.not_mem_nil, or_false] at hx
      rcases hx with e | e | e | e | e <;> rw [e]
      · exact np
      · exact made_free a1
      · exact made_free a2
      · exact made_free a3
      · exact made_free a4
    have so1 : Same H (off (own p A') H1) := off_free s1 nS
    have okN := evNew_ok m1 m6
    refine ⟨_, rfl, a, cs, rfl, s1.seq hs, for_it (walk_enum (xs := cs)) (fun i σ H' => ∃ (st : EvS) (x3 x4 : Option V), σ = [some (.int many), some (.ref a), some (.ref p), x3, x4] ∧
      EvOk st ∧ (st.last.length : Int) = many ∧ st.tale.length ≤ i ∧ Ev K (own p A') H' p A' st ∧ Same H (off (own p A') H') ∧ firstWrong many tale = firstFrom st i (tale.drop i)) ?_ ?_ ?_ ?_⟩
    · refine ⟨evNew many, _, _, rfl, okN, ?_, Nat.le_refl _, ev1, so1, rfl⟩
      show ((List.replicate many.toNat (0 : Int)).length : Int) = many
      rw [List.length_replicate]; omega
    · rintro i σ H' _ ⟨st, x3, x4, _, _, _, _, _, so, _⟩
      exact (so.trans (off_le _ _)).seq hs
    · rintro i v σ H2 H3 hi ⟨st, x3, x4, rfl, ok, hla, htl, ev, so, hfw⟩ ⟨t, x, y, rfl, nt, rfl, hx, hy⟩
      cases hx
      obtain ⟨part, hpt, hpa⟩ := hP.get hy
      have hcl := hP.len
      have hti : tale.length ≤ 300 := tok.1
      have hdr : tale.drop i = part :: tale.drop (i + 1) := by
        obtain ⟨hlt, e⟩ := List.getElem?_eq_some_iff.mp hpt
        rw [List.drop_eq_getElem_cons hlt, e]
      rw [hdr] at hfw
      refine ⟨t, _, rfl, SqT.of upd_same, rfl, _, _, rfl, _, _, rfl, rfl, ?_⟩
      refine to_new nt fun H3 s3 ht => ?_
      have ev3 := ev.mono s3
      have so3 : Same H (off (own p A') H3) := so.trans (off_mono s3)
      have hpa3 : PartAt (off (own p A') H3) y part := hpa.mono so3
      have fail : stepPart st part = none → ∀ H4, Same H H4 → Q (.int ((i : Nat) : Int)) H4 := fun e H4 s4 => by
        have z := q H4 s4
        rw [hfw, firstFrom_none e] at z
        exact z
      have next : ∀ (st' : EvS) (H4 : Hp), stepPart st part = some st' → Ev K (own p A') H4 p A' st' → Same H (off (own p A') H4) → ∀ z3 z4 : Option V,
          ∃ (st : EvS) (x3 x4 : Option V), [some (.int many), some (.ref a), some (.ref p), z3, z4] = [some (.int many), some (.ref a), some (.ref p), x3, x4] ∧
          EvOk st ∧ (st.last.length : Int) = many ∧ st.tale.length ≤ i + 1 ∧ Ev K (own p A') H4 p A' st ∧ Same H (off (own p A') H4) ∧ firstWrong many tale = firstFrom st ((i + 1 : Nat) : Int) (tale.drop (i + 1)) := fun st' H4 e ev4 so4 z3 z4 => by
        obtain ⟨k1, k2, k3⟩ := stepPart_ok e ok
        refine ⟨st', _, _, rfl, k1, by omega, by omega, ev4, so4, ?_⟩
        rw [hfw, firstFrom_some e]
        rfl
      obtain ⟨dx3, hp3⟩ := ev3.pp
      have back : ∀ {H4 : Hp}, Same H (off (own p A') H4) → Same H H4 := fun s4 => s4.trans (off_le _ _)
      cases y with
      | ref u =>
        cases part with
        | wish ss n r =>
          obtain ⟨b, hu, hb⟩ := hpa3
          have hu' := (off_some hu).2
          have hb' := (off_some hb).2
          have hsl : ss.length ≤ 1000 := tok.2 ss n r (List.mem_of_getElem? hpt)
          refine ⟨_, rfl, u, _, _, _, rfl, rfl, SqT.of hu', atI_nat (j := 0) rfl, rfl, _, rfl, ?_⟩
          rw [decide_eq_true rfl]
          refine iteT ⟨_, rfl, u, _, _, _, rfl, rfl, SqT.of hu', atI_nat (j := 1) rfl, _, rfl, b, ss, many, rfl, SqL.of hb', hsl, fun H4 s4 => ⟨_, rfl, ?_⟩⟩
          have so4 : Same H (off (own p A') H4) := so3.trans (off_mono s4)
          have ev4 := ev3.mono s4
          cases hA : areSingers ss many with
          | false =>
            refine iteT (iteT ⟨_, rfl, fail ?_ H4 (back so4)⟩)
            simp only [stepPart]
            rw [if_neg (fun z => by rw [hla, hA] at z; exact absurd z.1 (by decide))]
          | true =>
            obtain ⟨dx4, hp4⟩ := ev4.pp
            obtain ⟨cs4, c4, hq4⟩ := ev4.cell
            refine iteF ⟨_, rfl, p, _, dx4, _, _, rfl, hp4, T.cls_Evening, T.na_Evening_rounds, evF_rounds _ _, A'.ro, _, rfl, .inl (SqL.of c4.ro), rfl, _, rfl, ?_⟩
            rw [List.length_map]
            by_cases h24 : st.rounds.length = 24
            · rw [decide_eq_true (by rw [h24]; rfl)]
              refine iteT ⟨_, rfl, fail ?_ H4 (back so4)⟩
              simp only [stepPart]
              rw [if_neg (fun z => by omega)]
            · rw [decide_eq_false (by intro z; injection z; omega)]
              have hb4 : off (own p A') H4 b = some (.lst (ss.map V.int)) := (off_mono s4) _ _ hb
              have hu4 := s4 _ _ hu'
              refine iteF ⟨_, rfl, p, dx4, _, rfl, hp4, evF_no _ _ (by decide +kernel), _, rfl, u, _, _, _, rfl, rfl, SqT.of hu4, atI_nat (j := 1) rfl,
                own p A', p, b, A', st, ss, rfl, ev4, ok, by omega, SqL.of hb4, by rw [hla]; exact hA, (by have := ok.r24; omega), fun H5 v f5 ev5 nv hv => ?_⟩
              have so5 : Same H (off (own p A') H5) := so4.trans (Fra.off f5)
              have hu5 : H5 u = some (.tup [.str "wish", .ref b, .int n, .int r]) := f5 _ _ (off_some hu).1 hu4
              refine ⟨_, rfl, u, _, _, _, rfl, rfl, SqT.of hu5, atI_nat (j := 2) rfl, _, rfl, u, _, _, _, rfl, rfl, SqT.of hu5, atI_nat (j := 3) rfl, by show 2 ≤ sizeLine; decide, fun e ne => ?_⟩
              refine to_new ne fun H6 s6 he => ?_
              refine ⟨_, _, .tup (SqT.of (s6 _ _ hv)) (.cons (.int _) (.cons (.int _) .nil)), .tup (SqT.of he) (.cons (.int _) (.cons (.int _) .nil)), (shp_pair _ _).ok, (shp_pair _ _).ok, _, rfl, ?_⟩
              rw [eqv_pair]
              have so6 : Same H (off (own p A') H6) := so5.trans (off_mono s6)
              by_cases hE : (st.rounds.length : Int) = n ∧ st.num ss = r
              · rw [decide_eq_true hE]
                refine iteF (next (st.wish ss) H6 ?_ (ev5.mono s6) so6 _ _)
                simp only [stepPart]
                rw [if_pos ⟨by rw [hla]; exact hA, by have := ok.r24; omega, hE.1.symm, hE.2.symm⟩]
              · rw [decide_eq_false hE]
                refine iteT ⟨_, rfl, fail ?_ H6 (back so6)⟩
                simp only [stepPart]
                rw [if_neg (fun z => hE ⟨z.2.2.1.symm, z.2.2.2.symm⟩)]
        | sing o =>
          have hu' := (off_some hpa3).2
          refine ⟨_, rfl, u, _, _, _, rfl, rfl, SqT.of hu', atI_nat (j := 0) rfl, rfl, _, rfl, ?_⟩
          rw [nW1]
          refine iteF ⟨_, rfl, u, _, _, _, rfl, rfl, SqT.of hu', atI_nat (j := 0) rfl, rfl, _, rfl, ?_⟩
          rw [decide_eq_true rfl]
          refine iteT ⟨_, rfl, p, dx3, _, rfl, hp3, evF_no _ _ (by decide +kernel), own p A', p, A', st, rfl, ev3, ok, by omega, fun H5 f5 ev5 => ?_⟩
          have so5 : Same H (off (own p A') H5) := so3.trans (Fra.off f5)
          have hu5 : H5 u = some (.tup [.str "sing", optV o]) := f5 _ _ (off_some hpa3).1 hu'
          refine ⟨_, rfl, u, _, _, _, rfl, rfl, SqT.of hu5, atI_nat (j := 1) rfl, _, _, dp_opt _, dp_opt _, (shp_optD _).ok, (shp_optD _).ok, _, rfl, ?_⟩
          rw [eqv_opt]
          by_cases hE : st.next = o
          · rw [decide_eq_true hE]
            refine iteF (next st.sing H5 ?_ ev5 so5 _ _)
            simp only [stepPart]
            rw [if_pos hE]
          · rw [decide_eq_false hE]
            refine iteT ⟨_, rfl, fail ?_ H5 (back so5)⟩
            simp only [stepPart]
            rw [if_neg hE]
        | out n =>
          have hu' := (off_some hpa3).2
          refine ⟨_, rfl, u, _, _, _, rfl, rfl, SqT.of hu', atI_nat (j := 0) rfl, rfl, _, rfl, ?_⟩
          rw [nW2]
          refine iteF ⟨_, rfl, u, _, _, _, rfl, rfl, SqT.of hu', atI_nat (j := 0) rfl, rfl, _, rfl, ?_⟩
          rw [nS2]
          obtain ⟨cs3, c3, hq3⟩ := ev3.cell
          refine iteF ⟨_, rfl, u, _, _, _, rfl, rfl, SqT.of hu', atI_nat (j := 1) rfl, _, rfl, p, _, dx3, _, _, rfl, hp3, T.cls_Evening, T.na_Evening_waiting, evF_waiting _ _, A'.wa, _, rfl, .inl (SqL.of c3.wa), rfl, flat_ints _, _, rfl, ?_⟩
          rw [inV_ints]
          by_cases hE : n ∈ st.waiting
          · rw [decide_eq_true hE]
            refine iteF ⟨_, rfl, p, dx3, _, rfl, hp3, evF_no _ _ (by decide +kernel), _, rfl, u, _, _, _, rfl, rfl, SqT.of hu', atI_nat (j := 1) rfl, own p A', p, A', st, n, rfl, ev3, ok, by omega, hE, fun H5 f5 ev5 => ?_⟩
            refine next (st.out n) H5 ?_ ev5 (so3.trans (Fra.off f5)) _ _
            simp only [stepPart]
            rw [if_pos hE]
          · rw [decide_eq_false hE]
            refine iteT ⟨_, rfl, fail ?_ H3 (back so3)⟩
            simp only [stepPart]
            rw [if_neg hE]
      | _ => exact hpa.elim
    · rintro σ H2 ⟨st, x3, x4, rfl, ok, hla, htl, ev, so, hfw⟩
      have hcl := hP.len
      rw [hcl, List.drop_length] at hfw
      have z := q H2 (so.trans (off_le _ _))
      rw [hfw] at z
      exact ⟨_, rfl, z⟩
end
end Song

/-! ### An2: the answers Right and Wrong; what a law says of them -/
namespace Song
open PySem L2
section
variable {P : Program} {w : World} {K : PySem.W.Frag} {mg : Str → Option Value} {base : Heap}
/-- a tale handed in: its list, its parts -/
def TaleIn (K : PySem.W.Frag) (H : Hp) (a : Addr) (tale : List Part) : Prop := ∃ cs, SqL K H a cs ∧ Parts H cs tale ∧ TaleOk tale
theorem TaleIn.mono {H H' : Hp} {a : Addr} {tale : List Part} (s : Same H H') (h : TaleIn K H a tale) : TaleIn K H' a tale := by
  obtain ⟨cs, h1, h2, h3⟩ := h
  exact ⟨cs, s.seq h1, h2.mono s, h3⟩
theorem sc_Right_shows : FnScope ["self", "many", "tale"] ["self", "many", "tale"] (defScope s_Right_shows) := ⟨rfl, rfl, rfl, by decide +kernel, rfl, by decide +kernel, by decide +kernel⟩
def sp_right_shows (K : PySem.W.Frag) : Sp := fun vs H Q _ => ∃ (r a : Addr) (many : Int) (tale : List Part), vs = [.ref r, .int many, .ref a] ∧ 1 ≤ many ∧ many ≤ 6 ∧ TaleIn K H a tale ∧
  ∀ H', Same H H' → Q (.bl (decide (firstWrong many tale < 0))) H'
theorem me_Right_shows (T : Tx K mg) : Me P w K mg base (He.ga K "Right") "shows" 6 (sp_right_shows K) := by
  obtain ⟨fd, F⟩ := T.d_Right_shows
  refine ⟨_, fd, _, F.ok (CX := CX0) sc_Right_shows (fun vs H Q E h => ?_) (fun cdv A outer s H vs Q E hr h => ?_), T.cls_Right, T.me_Right_shows, F.bindsN fun _ _ _ _ _ _ us hl => match us, hl with | [_, _, _], _ => rfl⟩
  · obtain ⟨r, a, many, tale, rfl, _⟩ := h; rfl
  · obtain ⟨r, a, many, tale, rfl, m1, m6, ⟨cs, h1, h2, h3⟩, q⟩ := h
    refine ⟨_, PSs.nox (pss_one (ps_ret (pe_cmpR op_lt (pe_fn (fn_first_wrong T) (hr.mono (by first | decide | omega)) (by rfl) (pa_cons (pv 1) (pa_cons (pv 2) pa_nil))) pe_int (nomark _)))), ?_⟩
    exact ⟨_, rfl, _, rfl, many, a, cs, tale, rfl, m1, m6, h1, h2, h3, fun H1 s1 => ⟨_, _, rfl, rfl, q _ s1⟩⟩
def wrF (v : V) : List (Str × V) := [("place", v)]
theorem wrF_place (v : V) : (wrF v).lookup ("place" : Str) = some v := by kernel_rfl
theorem wrF_shows (v : V) : (wrF v).lookup ("shows" : Str) = none := by kernel_rfl
theorem wrF_put (v : V) : putF "place" v [] = wrF v := by kernel_rfl
theorem sc_Wrong___init__ : FnScope ["self", "place"] ["self", "place"] (defScope s_Wrong___init__) := ⟨rfl, rfl, rfl, by decide +kernel, rfl, by decide +kernel, by decide +kernel⟩
def sp_wrong_init (K : PySem.W.Frag) : Sp := fun vs H Q _ => ∃ (p dx : Addr) (v : V), vs = [.ref p, v] ∧ H p = some (.ins (He.ga K "Wrong") dx []) ∧ ∀ H', Fra [p] H H' → H' p = some (.ins (He.ga K "Wrong") dx (wrF v)) → Q .non H'
theorem mk_Wrong (T : Tx K mg) : Mke P w K mg base "Wrong" (He.ga K "Wrong") 1 (sp_wrong_init K) := by
  obtain ⟨fd, F⟩ := T.d_Wrong___init__
  refine ⟨_, fd, _, F.ok (CX := CX0) sc_Wrong___init__ (fun vs H Q E h => ?_) (fun cdv A outer s H vs Q E hr h => ?_), T.mk_Wrong, T.g_Wrong, F.bindsN fun _ _ _ _ _ _ us hl => match us, hl with | [_, _], _ => rfl⟩
  · obtain ⟨p, dx, v, rfl, _⟩ := h; rfl
  · obtain ⟨p, dx, v, rfl, hp, q⟩ := h
    refine ⟨_, PSs.nox (pss_one (show PS _ _ (sFld K _ _ _) from ps_fld (pv 0) (pv 1) rfl)), ?_⟩
    refine ⟨_, rfl, _, rfl, p, _, dx, _, rfl, hp, T.cls_Wrong, T.na_Wrong_place, by show 0 < 1000; decide, ?_⟩
    rw [wrF_put]
    exact to_put fun H1 f1 hp1 => q H1 f1 hp1
theorem sc_Wrong_shows : FnScope ["self", "many", "tale"] ["self", "many", "tale"] (defScope s_Wrong_shows) := ⟨rfl, rfl, rfl, by decide +kernel, rfl, by decide +kernel, by decide +kernel⟩
def sp_wrong_shows (K : PySem.W.Frag) : Sp := fun vs H Q _ => ∃ (p dx a : Addr) (many n : Int) (tale : List Part), vs = [.ref p, .int many, .ref a] ∧ H p = some (.ins (He.ga K "Wrong") dx (wrF (.int n))) ∧ 1 ≤ many ∧ many ≤ 6 ∧ TaleIn K H a tale ∧
  ∀ H', Same H H' → Q (.bl (decide (0 ≤ n ∧ firstWrong many tale = n))) H'
theorem me_Wrong_shows (T : Tx K mg) : Me P w K mg base (He.ga K "Wrong") "shows" 6 (sp_wrong_shows K) := by
  obtain ⟨fd, F⟩ := T.d_Wrong_shows
  refine ⟨_, fd, _, F.ok (CX := CX0) sc_Wrong_shows (fun vs H Q E h => ?_) (fun cdv A outer s H vs Q E hr h => ?_), T.cls_Wrong, T.me_Wrong_shows, F.bindsN fun _ _ _ _ _ _ us hl => match us, hl with | [_, _, _], _ => rfl⟩
  · obtain ⟨p, dx, a, many, n, tale, rfl, _⟩ := h; rfl
  · obtain ⟨p, dx, a, many, n, tale, rfl, hp, m1, m6, ⟨cs, h1, h2, h3⟩, q⟩ := h
    refine ⟨_, PSs.nox (pss_one (ps_ret (pe_and (pe_cmpR op_ge (show PE _ _ (tFld K _ _) from pe_fld (pv 0) rfl) pe_int (nomark _)) (pe_one (pe_cmpR op_eq (pe_fn (fn_first_wrong T) (hr.mono (by first | decide | omega)) (by rfl) (pa_cons (pv 1) (pa_cons (pv 2) pa_nil))) (show PE _ _ (tFld K _ _) from pe_fld (pv 0) rfl) (nomark _)))))), ?_⟩
    refine ⟨_, rfl, p, _, dx, _, _, rfl, hp, T.cls_Wrong, T.na_Wrong_place, wrF_place _, _, _, rfl, rfl, _, rfl, ?_⟩
    by_cases h0 : 0 ≤ n
    · rw [decide_eq_true h0]
      refine iteT ⟨_, rfl, _, rfl, many, a, cs, tale, rfl, m1, m6, h1, h2, h3, fun H1 s1 => ?_⟩
      refine ⟨_, rfl, p, _, dx, _, _, rfl, s1 _ _ hp, T.cls_Wrong, T.na_Wrong_place, wrF_place _, rfl, ?_⟩
      have e : decide (V.int (firstWrong many tale) = V.int n) = decide (0 ≤ n ∧ firstWrong many tale = n) := by
        by_cases z : firstWrong many tale = n
        · rw [decide_eq_true (congrArg V.int z), decide_eq_true ⟨h0, z⟩]
        · rw [decide_eq_false (fun y => z (by injection y)), decide_eq_false (fun y => z y.2)]
      rw [e]
      exact q _ s1
    · rw [decide_eq_false h0]
      have z := q H (Same.refl _)
      rw [decide_eq_false (fun y => h0 y.1)] at z
      exact iteF z
end
end Song

/-! ### Pl4: tales of deeds, plainly -/
namespace Song
open PySem L2
def TaleV (many : Int) (tale : List Part) : Prop := ∀ ss n r, Part.wish ss n r ∈ tale → areSingers ss many = true
theorem TaleV.wish {st : EvS} {ss : List Int} {m : Int} (h : TaleV m st.tale) (hs : areSingers ss m = true) : TaleV m (st.wish ss).tale := fun ss' n r hm => by
  rcases List.mem_append.mp hm with q | q
  · exact h ss' n r q
  · have := List.mem_singleton.mp q
    injection this with e _ _
    rw [e]; exact hs
theorem TaleV.sing {st : EvS} {m : Int} (h : TaleV m st.tale) : TaleV m st.sing.tale := fun ss n r hm => h ss n r (by
  unfold EvS.sing at hm
  cases e : st.next with
  | none => rw [e] at hm; simpa using hm
  | some s => rw [e] at hm; simpa using hm)
theorem TaleV.out {st : EvS} {m k : Int} (h : TaleV m st.tale) : TaleV m (st.out k).tale := fun ss n r hm => h ss n r (by simpa [EvS.out] using hm)
theorem TaleV.ok {m : Int} {tale : List Part} (h : TaleV m tale) (hl : tale.length ≤ 300) : TaleOk tale := ⟨hl, fun ss n r hm => by have := (areS_len (h ss n r hm)).2.1; omega⟩
theorem sing_rounds (st : EvS) : st.sing.rounds = st.rounds := by
  unfold EvS.sing
  cases st.next <;> rfl
theorem Parts.app {H : Hp} : ∀ {vs ws : List V} {ps qs : List Part}, Parts H vs ps → Parts H ws qs → Parts H (vs ++ ws) (ps ++ qs)
  | [], _, [], _, _, h => h
  | _ :: _, _, _ :: _, _, h, h2 => ⟨h.1, Parts.app h.2 h2⟩
  | [], _, _ :: _, _, h, _ => h.elim
  | _ :: _, _, [], _, h, _ => h.elim
theorem Parts.take {H : Hp} : ∀ {vs : List V} {ps : List Part} (n : Nat), Parts H vs ps → Parts H (vs.take n) (ps.take n)
  | _, _, 0, _ => trivial
  | [], [], _ + 1, _ => trivial
  | _ :: _, _ :: _, n + 1, h => ⟨h.1, Parts.take n h.2⟩
  | [], _ :: _, _, h => h.elim
  | _ :: _, [], _, h => h.elim
theorem Parts.drop {H : Hp} : ∀ {vs : List V} {ps : List Part} (n : Nat), Parts H vs ps → Parts H (vs.drop n) (ps.drop n)
  | _, _, 0, h => h
  | [], [], _ + 1, _ => trivial
  | _ :: _, _ :: _, n + 1, h => Parts.drop n h.2
  | [], _ :: _, _, h => h.elim
  | _ :: _, [], _, h => h.elim
end Song

/-! ### Dc: dicts of whole numbers, plainly -/
namespace Song
open PySem L2
def getC (cn : List (Int × Int)) (k : Int) : Option Int := (cn.find? fun p => decide (p.1 = k)).map (·.2)
def putC (cn : List (Int × Int)) (k v : Int) : List (Int × Int) := if (cn.any fun p => decide (p.1 = k)) = true then cn.map (fun p => if p.1 = k then (p.1, v) else p) else cn ++ [(k, v)]
def toK (cn : List (Int × Int)) : List (Key × V) := cn.map fun p => (Sum.inl p.1, V.int p.2)
theorem inl_iff {a b : Int} : ((Sum.inl a : Key) = Sum.inl b) ↔ a = b := ⟨fun e => by injection e, fun e => by rw [e]⟩
theorem valV_toK (k : Int) : ∀ cn : List (Int × Int), valV (toK cn) (Sum.inl k) = (getC cn k).map V.int
  | [] => rfl
  | p :: r => by
    by_cases e : p.1 = k
    · have h1 : valV (toK (p :: r)) (Sum.inl k) = some (.int p.2) := valV_pos (p := (Sum.inl p.1, V.int p.2)) (inl_iff.mpr e)
      rw [h1]
      unfold getC
      rw [List.find?_cons_of_pos (by simpa using e)]; rfl
    · have h1 : valV (toK (p :: r)) (Sum.inl k) = valV (toK r) (Sum.inl k) := valV_neg (p := (Sum.inl p.1, V.int p.2)) (fun z => e (inl_iff.mp z))
      rw [h1, valV_toK k r]
      unfold getC
      rw [List.find?_cons_of_neg (by simpa using e)]
theorem any_toK (k : Int) (cn : List (Int × Int)) : ((toK cn).any fun kv => decide (kv.1 = Sum.inl k)) = cn.any fun p => decide (p.1 = k) := by
  unfold toK
  rw [List.any_map]
  congr 1
  funext p
  exact decide_eq_decide.mpr inl_iff
theorem putK_toK (k v : Int) (cn : List (Int × Int)) : putK (toK cn) (Sum.inl k) (.int v) = toK (putC cn k v) := by
  unfold putK putC
  rw [any_toK]
  split
  · unfold toK
    rw [List.map_map, List.map_map]
    refine List.map_congr_left fun p _ => ?_
    show (if (Sum.inl p.1 : Key) = Sum.inl k then _ else _) = ((fun p : Int × Int => ((Sum.inl p.1 : Key), V.int p.2)) (if p.1 = k then (p.1, v) else p))
    by_cases e : p.1 = k
    · rw [if_pos (inl_iff.mpr e), if_pos e]
    · rw [if_neg (fun z => e (inl_iff.mp z)), if_neg e]
  · unfold toK
    rw [List.map_append]; rfl
theorem toK_len (cn : List (Int × Int)) : (toK cn).length = cn.length := List.length_map _
theorem putC_len (cn : List (Int × Int)) (k v : Int) : (putC cn k v).length ≤ cn.length + 1 := by
  unfold putC
  split
  · rw [List.length_map]; omega
  · rw [List.length_append, List.length_singleton]; omega
theorem getC_putC (cn : List (Int × Int)) (k v s : Int) : getC (putC cn k v) s = if s = k then some v else getC cn s := by
  unfold putC
  by_cases h : (cn.any fun p => decide (p.1 = k)) = true
  · rw [if_pos h]
    induction cn with
    | nil => simp at h
    | cons p r ih =>
      unfold getC at ih ⊢
      rw [List.map_cons]
      by_cases e : p.1 = k
      · rw [if_pos e]
        by_cases e2 : s = k
        · rw [if_pos e2, List.find?_cons_of_pos (by simp [e, e2])]; rfl
        · rw [if_neg e2, List.find?_cons_of_neg (by simp [e]; exact fun z => e2 z.symm), List.find?_cons_of_neg (by simp [e]; exact fun z => e2 z.symm)]
          by_cases h2 : (r.any fun p => decide (p.1 = k)) = true
          · rw [ih h2, if_neg e2]
          · have e3 : r.map (fun p => if p.1 = k then (p.1, v) else p) = r := by
              refine (List.map_congr_left fun q hq => ?_).trans (List.map_id _)
              rw [if_neg (fun z => h2 (List.any_eq_true.mpr ⟨q, hq, decide_eq_true z⟩))]; rfl
            rw [e3]
      · rw [if_neg e]
        have h2 : (r.any fun p => decide (p.1 = k)) = true := by
          rw [List.any_cons, decide_eq_false e] at h; exact h
        by_cases e2 : p.1 = s
        · rw [List.find?_cons_of_pos (by simpa using e2), List.find?_cons_of_pos (by simpa using e2), if_neg (fun z => e (e2.trans z))]
        · rw [List.find?_cons_of_neg (by simpa using e2), List.find?_cons_of_neg (by simpa using e2)]
          exact ih h2
  · rw [if_neg h]
    unfold getC
    rw [List.find?_append]
    by_cases e2 : s = k
    · rw [if_pos e2]
      have n : cn.find? (fun p => decide (p.1 = s)) = none := List.find?_eq_none.mpr fun p hp z => h (List.any_eq_true.mpr ⟨p, hp, by rw [← e2]; exact z⟩)
      rw [n]
      simp [e2]
    · rw [if_neg e2]
      have n : [(k, v)].find? (fun p : Int × Int => decide (p.1 = s)) = none := by
        rw [List.find?_cons_of_neg (by simpa using fun z => e2 z.symm)]; rfl
      rw [n, Option.or_none]
theorem getC_get {H : Hp} {c : Addr} {cn : List (Int × Int)} {x v : Int} (h : H c = some (.dK (toK cn))) (g : getC cn x = some v) : DGet H c (.int x) (some (.int v)) := by
  have z := DGet.k (k := Sum.inl x) h
  rw [valV_toK, g] at z
  exact z
end Song

/-! ### Cut: a named state behind a statement, a named answer behind an expression -/
namespace Song
open PySem L2
def sCut (t : TS) : TS := fun D σ H => ∃ G : L2.St → Hp → Prop, t { D with nx := G } σ H ∧ ∀ σ' H', G σ' H' → D.nx σ' H'
theorem ps_cut {X : Cx} {st : Stmt} {t : TS} (h : PS X st t) : PS X st (sCut t) := by
  refine ⟨fun pins s σ H D I hw => ?_⟩
  obtain ⟨G, h1, h2⟩ := hw
  refine thn (h.run pins s σ H _ I h1) fun f s1 q => ?_
  cases f with
  | next => obtain ⟨σ', H', I2, z⟩ := q; exact ⟨σ', H', I2, h2 _ _ z⟩
  | brk => exact q
  | cont => exact q
  | ret v => exact q
def eCut (t : TE) : TE := fun σ H Q => ∃ G : V → Hp → Prop, t σ H G ∧ ∀ v H', G v H' → Q v H'
theorem pe_cut {X : Cx} {e : Expr} {t : TE} (h : PE X e t) : PE X e (eCut t) := by
  refine ⟨fun pins s σ H Q I hw => ?_⟩
  obtain ⟨G, h1, h2⟩ := hw
  refine thn (h.run pins s σ H _ I h1) fun v s1 ⟨x, H1, I1, r, q⟩ => ?_
  exact ⟨x, H1, I1, r, h2 _ _ q⟩
/-- one of two readings of an expression -/
def tAlt (t1 t2 : TE) : TE := fun σ H Q => t1 σ H Q ∨ t2 σ H Q
theorem pe_alt {X : Cx} {e : Expr} {t1 t2 : TE} (a : PE X e t1) (b : PE X e t2) : PE X e (tAlt t1 t2) :=
  ⟨fun pins s σ H Q I h => h.elim (fun h => a.run pins s σ H Q I h) (fun h => b.run pins s σ H Q I h)⟩
/-- an own instance's class, for isinstance -/
theorem ty_ins {K : PySem.W.Frag} {H : Hp} {a C dx : Addr} {fs : List (Str × V)} (h : H a = some (.ins C dx fs)) (cl : Cls K C) (c : IsC K C) : TyX K H (.ref a) (.ref C) := .base (.ins h cl c.cls c.spe c.tak c.mro)
/-- lists of numbers in the heap, none of them long -/
def IntL (K : PySem.W.Frag) (H : Hp) (vs : List V) : Prop := ∀ v ∈ vs, ∃ (b : Addr) (ns : List Int), v = .ref b ∧ SqL K H b (ns.map V.int) ∧ ns.length ≤ 100
theorem IntL.mono {K : PySem.W.Frag} {H H' : Hp} {vs : List V} (s : Same H H') (h : IntL K H vs) : IntL K H' vs := fun v hv => by
  obtain ⟨b, ns, e, q, l⟩ := h v hv
  exact ⟨b, ns, e, s.seq q, l⟩
theorem IntL.nil {K : PySem.W.Frag} {H : Hp} : IntL K H [] := fun v hv => by cases hv
theorem IntL.cons {K : PySem.W.Frag} {H : Hp} {b : Addr} {ns : List Int} {vs : List V} (h : SqL K H b (ns.map V.int)) (l : ns.length ≤ 100) (t : IntL K H vs) : IntL K H (.ref b :: vs) := fun v hv => by
  rcases List.mem_cons.mp hv with e | e
  · exact ⟨b, ns, e, h, l⟩
  · exact t v e
theorem IntL.app {K : PySem.W.Frag} {H : Hp} {vs ws : List V} (h : IntL K H vs) (g : IntL K H ws) : IntL K H (vs ++ ws) := fun v hv => by
  rcases List.mem_append.mp hv with e | e
  · exact h v e
  · exact g v e
theorem rep_intsN (n : Nat) (ns : List Int) : (List.replicate n (ns.map V.int)).flatten = ((List.replicate n ns).flatten).map V.int := by
  rw [List.map_flatten, List.map_replicate]
end Song

/-! ### An3: is_part, judged -/
namespace Song
open PySem L2
section
variable {P : Program} {w : World} {K : PySem.W.Frag} {mg : Str → Option Value} {base : Heap}
/-- a Right or a Wrong -/
def AnsAt (K : PySem.W.Frag) (H : Hp) (r : Addr) (fw : Int) : Prop := (fw < 0 ∧ ∃ dx, H r = some (.ins (He.ga K "Right") dx [])) ∨ (0 ≤ fw ∧ ∃ dx, H r = some (.ins (He.ga K "Wrong") dx (wrF (.int fw))))
theorem AnsAt.mono {H H' : Hp} {r : Addr} {fw : Int} (s : Same H H') (h : AnsAt K H r fw) : AnsAt K H' r fw := by
  rcases h with ⟨h0, dx, h⟩ | ⟨h0, dx, h⟩
  · exact .inl ⟨h0, dx, s _ _ h⟩
  · exact .inr ⟨h0, dx, s _ _ h⟩
theorem sc_is_part : FnScope ["thing"] ["thing"] (defScope s_is_part) := ⟨rfl, rfl, rfl, by decide +kernel, rfl, by decide +kernel, by decide +kernel⟩
def sp_is_part (K : PySem.W.Frag) : Sp := fun vs H Q _ => ∃ (v : V) (p : Part), vs = [v] ∧ PartAt H v p ∧ (∀ ss n r, p = .wish ss n r → ss.length ≤ 1000) ∧ ∀ H', Same H H' → Q (.bl true) H'
theorem all_isInt (ns : List Int) : (ns.map V.int).all isInt = true := by rw [List.all_map]; exact List.all_eq_true.mpr fun _ _ => rfl
theorem fn_is_part (T : Tx K mg) : Fn P w K mg base "is_part" 3 (sp_is_part K) := by
  obtain ⟨fd, F⟩ := T.d_is_part
  refine ⟨_, fd, _, F.ok (CX := CX0) sc_is_part (fun vs H Q E h => ?_) (fun cdv A outer s H vs Q E hr h => ?_), T.g_is_part, F.kp, F.bindsN fun _ _ _ _ _ _ us hl => match us, hl with | [_], _ => rfl⟩
  · obtain ⟨v, p, rfl, _⟩ := h; rfl
  · obtain ⟨v, p, rfl, hp, hl, q⟩ := h
    refine ⟨_, PSs.nox (pss_cons (ps_if (PW.pt (pw_or (pt_not (pt_val (pe_callB (show CallR _ _ (rIsi K) from call_isi) (by rfl) T.isinstance (by decide +kernel) (pa_cons (pv 0) (pa_cons (pe_gt (n := "tuple") T.tuple (by rfl) (by decide +kernel)) pa_nil))))) (pw_or (pt_cmpR op_lt (pe_callB (show CallR _ _ (rLenQ K) from call_len_seq) (by rfl) T.len (by decide +kernel) (pa_cons (pv 0) pa_nil)) pe_int (nomark _)) (pw_or1 (pt_not (pt_val (pe_callB (show CallR _ _ (rIsi K) from call_isi) (by rfl) T.isinstance (by decide +kernel) (pa_cons (pe_ix (show IxR _ (rIxT K) from ix_tup) (pv 0) pe_int (fun _ _ => rfl)) (pa_cons (pe_gt (n := "str") T.str (by rfl) (by decide +kernel)) pa_nil))))))))) (pss_one (ps_ret pe_bl)) pss_nil)
      (pss_cons (ps_if (pt_cmpR op_eq (pe_ix (show IxR _ (rIxT K) from ix_tup) (pv 0) pe_int (fun _ _ => rfl)) pe_str (nomark _)) (pss_one (ps_ret (pe_and (pe_cmpR op_eq (pe_callB (show CallR _ _ (rLenQ K) from call_len_seq) (by rfl) T.len (by decide +kernel) (pa_cons (pv 0) pa_nil)) pe_int (nomark _)) (pe_and (pe_fn (fn_are_numbers T) (hr.mono (by first | decide | omega)) (by rfl) (pa_cons (pe_ix (show IxR _ (rIxT K) from ix_tup) (pv 0) pe_int (fun _ _ => rfl)) pa_nil)) (pe_and (pe_fn (fn_is_whole T) (hr.mono (by first | decide | omega)) (by rfl) (pa_cons (pe_ix (show IxR _ (rIxT K) from ix_tup) (pv 0) pe_int (fun _ _ => rfl)) pa_nil)) (pe_one (pe_fn (fn_is_whole T) (hr.mono (by first | decide | omega)) (by rfl) (pa_cons (pe_ix (show IxR _ (rIxT K) from ix_tup) (pv 0) pe_int (fun _ _ => rfl)) pa_nil)))))))) pss_nil)
      (pss_cons (ps_if (pt_cmpR op_eq (pe_ix (show IxR _ (rIxT K) from ix_tup) (pv 0) pe_int (fun _ _ => rfl)) pe_str (nomark _)) (pss_one (ps_ret (pe_and (pe_cmpR op_eq (pe_callB (show CallR _ _ (rLenQ K) from call_len_seq) (by rfl) T.len (by decide +kernel) (pa_cons (pv 0) pa_nil)) pe_int (nomark _)) (pe_one (pe_or (pe_cmpR op_isN (pe_ix (show IxR _ (rIxT K) from ix_tup) (pv 0) pe_int (fun _ _ => rfl)) pe_non (nomark _)) (pe_one (pe_fn (fn_is_whole T) (hr.mono (by first | decide | omega)) (by rfl) (pa_cons (pe_ix (show IxR _ (rIxT K) from ix_tup) (pv 0) pe_int (fun _ _ => rfl)) pa_nil)))))))) pss_nil)
      (pss_one (ps_ret (pe_and (pe_cmpR op_eq (pe_ix (show IxR _ (rIxT K) from ix_tup) (pv 0) pe_int (fun _ _ => rfl)) pe_str (nomark _)) (pe_and (pe_cmpR op_eq (pe_callB (show CallR _ _ (rLenQ K) from call_len_seq) (by rfl) T.len (by decide +kernel) (pa_cons (pv 0) pa_nil)) pe_int (nomark _)) (pe_one (pe_fn (fn_is_whole T) (hr.mono (by first | decide | omega)) (by rfl) (pa_cons (pe_ix (show IxR _ (rIxT K) from ix_tup) (pv 0) pe_int (fun _ _ => rfl)) pa_nil)))))))))), ?_⟩
    cases v with
    | ref t =>
      have str : ∀ (n : String), Kd K H (.str n) "str" := fun n => .base (.str n)
      cases p with
      | wish ss n r =>
        obtain ⟨b, ht, hb⟩ := hp
        have kt := kd_tup (SqT.of (K := K) ht)
        refine ⟨_, rfl, _, _, _, _, _, rfl, .ty _, kt, (kit_kd kt).2.2.2.1, _, rfl, iteF ?_⟩
        refine ⟨_, rfl, t, _, rfl, .inr (SqT.of ht), _, _, rfl, rfl, _, rfl, iteF ?_⟩
        refine ⟨_, rfl, t, _, _, _, rfl, rfl, SqT.of ht, atI_nat (j := 0) rfl, _, _, _, _, _, rfl, .ty _, str "wish", (kit_kd (str "wish")).2.2.2.2, _, rfl, iteF ?_⟩
        refine ⟨_, rfl, t, _, _, _, rfl, rfl, SqT.of ht, atI_nat (j := 0) rfl, rfl, _, rfl, ?_⟩
        rw [decide_eq_true rfl]
        refine iteT ⟨_, rfl, t, _, rfl, .inr (SqT.of ht), rfl, _, rfl, iteT ?_⟩
        refine ⟨_, rfl, t, _, _, _, rfl, rfl, SqT.of ht, atI_nat (j := 1) rfl, _, rfl, .inl ⟨b, _, rfl, SqL.of hb, by rw [List.length_map]; exact hl ss n r rfl, fun x hx => ?_, fun H1 s1 => ?_⟩⟩
        · obtain ⟨m, _, rfl⟩ := List.mem_map.mp hx
          exact ⟨_, kd_int m⟩
        rw [all_isInt]
        refine ⟨_, rfl, iteT ⟨_, rfl, t, _, _, _, rfl, rfl, SqT.of (s1 _ _ ht), atI_nat (j := 2) rfl, _, _, rfl, kd_int n, _, rfl, iteT ?_⟩⟩
        exact ⟨_, rfl, t, _, _, _, rfl, rfl, SqT.of (s1 _ _ ht), atI_nat (j := 3) rfl, _, _, rfl, kd_int r, q _ s1⟩
      | sing o =>
        have ht : H t = some (.tup [.str "sing", optV o]) := hp
        have kt := kd_tup (SqT.of (K := K) ht)
        refine ⟨_, rfl, _, _, _, _, _, rfl, .ty _, kt, (kit_kd kt).2.2.2.1, _, rfl, iteF ?_⟩
        refine ⟨_, rfl, t, _, rfl, .inr (SqT.of ht), _, _, rfl, rfl, _, rfl, iteF ?_⟩
        refine ⟨_, rfl, t, _, _, _, rfl, rfl, SqT.of ht, atI_nat (j := 0) rfl, _, _, _, _, _, rfl, .ty _, str "sing", (kit_kd (str "sing")).2.2.2.2, _, rfl, iteF ?_⟩
        refine ⟨_, rfl, t, _, _, _, rfl, rfl, SqT.of ht, atI_nat (j := 0) rfl, rfl, _, rfl, ?_⟩
        rw [nW1]
        refine iteF ⟨_, rfl, t, _, _, _, rfl, rfl, SqT.of ht, atI_nat (j := 0) rfl, rfl, _, rfl, ?_⟩
        rw [decide_eq_true rfl]
        refine iteT ⟨_, rfl, t, _, rfl, .inr (SqT.of ht), rfl, _, rfl, iteT ?_⟩
        refine ⟨_, rfl, t, _, _, _, rfl, rfl, SqT.of ht, atI_nat (j := 1) rfl, ?_⟩
        cases o with
        | none => exact ⟨rfl, _, rfl, iteT (q _ (Same.refl _))⟩
        | some n => exact ⟨rfl, _, rfl, iteF ⟨_, rfl, t, _, _, _, rfl, rfl, SqT.of ht, atI_nat (j := 1) rfl, _, _, rfl, kd_int n, q _ (Same.refl _)⟩⟩
      | out n =>
        have ht : H t = some (.tup [.str "out", .int n]) := hp
        have kt := kd_tup (SqT.of (K := K) ht)
        refine ⟨_, rfl, _, _, _, _, _, rfl, .ty _, kt, (kit_kd kt).2.2.2.1, _, rfl, iteF ?_⟩
        refine ⟨_, rfl, t, _, rfl, .inr (SqT.of ht), _, _, rfl, rfl, _, rfl, iteF ?_⟩
        refine ⟨_, rfl, t, _, _, _, rfl, rfl, SqT.of ht, atI_nat (j := 0) rfl, _, _, _, _, _, rfl, .ty _, str "out", (kit_kd (str "out")).2.2.2.2, _, rfl, iteF ?_⟩
        refine ⟨_, rfl, t, _, _, _, rfl, rfl, SqT.of ht, atI_nat (j := 0) rfl, rfl, _, rfl, ?_⟩
        rw [nW2]
        refine iteF ⟨_, rfl, t, _, _, _, rfl, rfl, SqT.of ht, atI_nat (j := 0) rfl, rfl, _, rfl, ?_⟩
        rw [nS2]
        refine iteF ⟨_, rfl, t, _, _, _, rfl, rfl, SqT.of ht, atI_nat (j := 0) rfl, rfl, _, rfl, iteT ?_⟩
        refine ⟨_, rfl, t, _, rfl, .inr (SqT.of ht), rfl, _, rfl, iteT ?_⟩
        exact ⟨_, rfl, t, _, _, _, rfl, rfl, SqT.of ht, atI_nat (j := 1) rfl, _, _, rfl, kd_int n, q _ (Same.refl _)⟩
    | _ => exact hp.elim
theorem sc_judged : FnScope ["many", "tale", "part", "place"] ["many", "tale"] (defScope s_judged) := ⟨rfl, rfl, rfl, by decide +kernel, rfl, by decide +kernel, by decide +kernel⟩
def sp_judged (K : PySem.W.Frag) : Sp := fun vs H Q _ => ∃ (many : Int) (a : Addr) (tale : List Part), vs = [.int many, .ref a] ∧ 1 ≤ many ∧ many ≤ 6 ∧ TaleIn K H a tale ∧ tale.length ≤ 30 ∧
  ∀ H' r, Same H H' → H r = none → AnsAt K H' r (firstWrong many tale) → Q (.ref r) H'
theorem fn_judged (T : Tx K mg) : Fn P w K mg base "judged" 6 (sp_judged K) := by
  obtain ⟨fd, F⟩ := T.d_judged
  refine ⟨_, fd, _, F.ok (CX := CX0) sc_judged (fun vs H Q E h => ?_) (fun cdv A outer s H vs Q E hr h => ?_), T.g_judged, F.kp, F.bindsN fun _ _ _ _ _ _ us hl => match us, hl with | [_, _], _ => rfl⟩
  · obtain ⟨many, a, tale, rfl, _⟩ := h; rfl
  · obtain ⟨many, a, tale, rfl, m1, m6, ⟨cs, hs, hP, tok⟩, t30, q⟩ := h
    refine ⟨_, PSs.nox (pss_cons (ps_expr (pe_fn (fn_check_many T) (hr.mono (by first | decide | omega)) (by rfl) (pa_cons (pv 0) pa_nil)))
      (pss_cons (ps_if (PW.pt (pw_or (pt_not (pt_val (pe_callB (show CallR _ _ (rIsi K) from call_isi) (by rfl) T.isinstance (by decide +kernel) (pa_cons (pv 1) (pa_cons (pe_gt (n := "list") T.list (by rfl) (by decide +kernel)) pa_nil))))) (pw_or (pt_cmpR op_gt (pe_callB (show CallR _ _ (rLenQ K) from call_len_seq) (by rfl) T.len (by decide +kernel) (pa_cons (pv 1) pa_nil)) (pe_gi T.c_MOST_PARTS (by rfl)) (nomark _)) (pw_or1 (pt_not (pt_val (pe_callB (show CallR _ _ (rAll K) from cr_all (by rfl)) (by rfl) T.all (by decide +kernel) (pa_cons (pe_lc (own := [("part", 2)]) (g := (gName 2)) (tt := tYes) (by rfl) sc_judged.nd (show PI _ _ _ (iList K _) from pi_list (pv 1)) (blkOk_by (by kernel_rfl)) (fun _ _ _ _ _ => (pg_name (i := 2) sc_judged.nd rfl (by first | exact Or.inl rfl | exact Or.inr rfl))) (fun _ _ _ _ _ => pts_nil) (fun _ _ _ _ _ => (pe_fn (fn_is_part T) (hr.mono (by first | decide | omega)) (by rfl) (pa_cons (pv 2) pa_nil)))) pa_nil)))))))) (pss_one ps_never) pss_nil)
      (pss_cons (ps_set (i := 3) sc_judged.nd rfl (by first | exact Or.inl rfl | exact Or.inr rfl) (pe_fn (fn_first_wrong T) (hr.mono (by first | decide | omega)) (by rfl) (pa_cons (pv 0) (pa_cons (pv 1) pa_nil))))
      (pss_one (ps_ret (pe_ifExp (pt_cmpR op_lt (pv 3) pe_int (nomark _)) (pe_mkO T.mkb_Right (by rfl) T.g_Right) (pe_mk (mk_Wrong T) (hr.mono (by first | decide | omega)) (by rfl) (pa_cons (pv 3) pa_nil)))))))), ?_⟩
    have hcl := hP.len
    refine ⟨_, rfl, many, rfl, m1, m6, ?_⟩
    have kl := kd_list hs
    refine ⟨_, rfl, _, _, _, _, _, rfl, .ty _, kl, (kit_kd kl).2.2.1, _, rfl, iteF ?_⟩
    refine ⟨_, rfl, a, _, rfl, .inl hs, _, _, rfl, rfl, _, rfl, ?_⟩
    rw [decide_eq_false (by omega)]
    refine iteF ⟨_, rfl, a, rfl, ⟨_, hs⟩, fun D nD => lc_map (fun _ => V.bl true) hs nD (by omega) (fun i x H1 hx s1 k hk => ?_) (fun H1 s1 hD => ?_) gname_mono⟩
    · obtain ⟨part, hpt, hpa⟩ := hP.get hx
      exact ⟨rfl, _, rfl, x, part, rfl, hpa.mono s1, fun ss n r e => tok.2 ss n r (by rw [← e]; exact List.mem_of_getElem? hpt), hk⟩
    · refine ⟨_, cs.map (fun _ => true), rfl, SqL.of (by rw [List.map_map]; exact hD), ?_⟩
      rw [show (cs.map (fun _ => true)).all id = true from by rw [List.all_map]; exact List.all_eq_true.mpr fun _ _ => rfl]
      refine ⟨_, rfl, iteF ?_⟩
      refine ⟨_, rfl, _, rfl, many, a, cs, tale, rfl, m1, m6, s1.seq hs, hP.mono s1, tok, fun H2 s2 => ?_⟩
      generalize firstWrong many tale = fw at *
      refine ⟨_, rfl, _, _, rfl, rfl, _, rfl, ?_⟩
      have s12 := s1.trans s2
      by_cases h0 : fw < 0
      · rw [decide_eq_true h0]
        refine iteT fun x dx nx ndx nex => ?_
        have nx0 := s12.free nx
        exact to_made nx ndx fun J j hx => q J x (s12.trans j) nx0 (.inl ⟨h0, dx, hx⟩)
      · rw [decide_eq_false h0]
        refine iteF ⟨_, rfl, fun x dx nx ndx nex => ⟨x, dx, .int fw, rfl, upd_same, fun G g hy => ⟨rfl, ?_⟩⟩⟩
        exact q G x (s12.trans (made_same nx ndx g)) (s12.free nx) (.inr ⟨by omega, dx, hy⟩)
end
end Song

/-! ### RgL: list(range(i, j, c)), c of any size; list(d.values()) -/
namespace Song
open PySem PySem.Spec PyProof.Rows L2
section
variable {P : Program} {w : World} {A : Around} {E : Value → Shared → Prop} {s : Shared}
theorem ext_long {R : Result → Shared → Prop} {g : Addr} {i j c : Int} {t u v : Tok} {n : Nat} (nh : A.handled = none) (hg : IsRange s.heap g i j c t u v) (big : Builtin.Range.small i j c = false)
    (hn : Builtin.Range.rangeSize i j c = n) (few : n ≤ 2 ^ 24) (L : Addr) (res : Value) (c₀ : Nat) (hL : s.heap.get? L = some { cls := .type "list", data := .seq #[] c₀ })
    (q : ∀ h2 tk acc c2, (∀ b o, b ≠ L → s.heap.get? b = some o → h2.get? b = some o) → h2.get? L = some { cls := .type "list", dict := none, data := .seq acc c2, slots := #[] } →
      ItemsOf (fun k v => ∃ t, v = .int (i + k * c) t) acc n → R (.ok (.ret res)) { s with heap := h2, toks := tk }) :
    wpAny (model P w) A.in1 (Builtin.List.listExtendWith (.ref L) (.ref g) res)
      (fun fin s2 => match fin with | .done f => R (.ok f) s2 | .again c2 => c2.quiet = true ∧ codeAny (model P w) A c2 R s2) (fun e s2 => R (.error e) s2) s := by
  have neG : L ≠ g := fun z => by rw [z, hg] at hL; simp at hL
  have ltL : L < s.heap.objs.size := Heap.lt_size hL
  have neI : L ≠ s.heap.objs.size := Nat.ne_of_lt ltL
  have nin : L ∉ [s.heap.objs.size] := fun z => neI (List.mem_singleton.mp z)
  have W := (Walks.longrange (prog := P) (w := w) (A := A.in1) nh s.heap.objs.size i c n).toS
  have loop : ∀ (h : Heap) (c₁ tk : Nat), IsLongIter h s.heap.objs.size (i + ((0 : Nat) : Int) * c) ((n : Int) - ((0 : Nat) : Int)) c → (∀ b o, b ≠ L → s.heap.get? b = some o → h.get? b = some o) →
      h.get? L = some { cls := .type "list", data := .seq #[] c₁ } → codeAny (model P w) A (.builtin "list.extend.loop" ⟨[.ref L, .ref s.heap.objs.size, res], []⟩) R { s with heap := h, toks := tk } := by
    intro h c₁ tk hit keep hL1
    refine codeAny_extend_loopS W (by rw [sizeLine_eq]; omega) L nin res n 0 _ #[] c₁ rfl (Nat.zero_le _) hit hL1 (ItemsOf.nil _) fun s2 acc c2 mv hL2 its => ?_
    rw [Moved.eq_with mv]
    refine q s2.heap s2.toks acc c2 (fun b o nb e => mv.heap b o (fun hm => ?_) (keep b o nb e)) hL2 its
    rcases List.mem_cons.mp hm with z | z
    · exact nb z
    · rw [List.mem_singleton] at z
      subst z
      exact absurd (Heap.lt_size e) (Nat.lt_irrefl _)
  unfold Builtin.List.listExtendWith
  refine wpAny_bind (wpAny_typeOf (T := "range") ⟨_, hg, rfl⟩ ?_)
  have k1 : Builtin.List.listSameRef (.ref L) (.ref g) = false := by simp [Builtin.List.listSameRef, neG]
  have k2 : (Value.type "range" == Value.type "list") = false := by decide
  have k3 : (Value.type "range" == Value.type "tuple") = false := by decide
  simp only [k1, k2, k3, Bool.or_false, Bool.false_eq_true, if_false]
  refine wpAny_bind (wpAny_pyIter_longrange hg big ?_)
  refine wpAny_bind (wpAny_holding (wpAny_hint_range (n := n) (Heap.get?_push_of_some _ hg) hn few ?_))
  have it1 : IsLongIter (s.heap.push { cls := .type "longrange_iterator", data := .fields #[rawInt i, rawInt (Builtin.Range.rangeSize i j c), rawInt c] }) s.heap.objs.size (i + ((0 : Nat) : Int) * c) ((n : Int) - ((0 : Nat) : Int)) c := by
    show IsLongIter _ _ _ _ _
    rw [hn]
    simpa using Heap.get?_push_size _ rfl
  have L1 := Heap.get?_push_of_some { cls := .type "longrange_iterator", data := .fields #[rawInt i, rawInt (Builtin.Range.rangeSize i j c), rawInt c] } hL
  refine wpAny_ite_split (fun _ => ?_) (fun _ => wpAny_pure ⟨plainId_quiet F.plain_extend_loop _, loop _ c₀ _ it1 (fun b o _ e => Heap.get?_push_of_some _ e) L1⟩)
  refine wpAny_bind (wpAny_rule ?_)
  refine wpAny_bind ?_
  show wpAny _ _ (updateSeq L (·.push .none) >>= fun _ => updateSeq L (·.pop)) _ _ _
  refine wpAny_bind (wpAny_updateSeq L1 rfl ?_)
  have L2 := Heap.get?_update_self (Obj.mapSeq (·.push Value.none)) L1 rfl
  refine wpAny_updateSeq (hz := by seq_fits) L2 rfl ?_
  have L3 := Heap.get?_update_self (Obj.mapSeq (·.pop)) L2 rfl
  refine wpAny_pure ⟨plainId_quiet F.plain_extend_loop _, loop _ _ _ ?_ (fun b o nb e => ?_) L3⟩
  · exact (Heap.get?_update_other _ _ neI).trans ((Heap.get?_update_other _ _ neI).trans it1)
  · exact (Heap.get?_update_other _ _ (Ne.symm nb)).trans ((Heap.get?_update_other _ _ (Ne.symm nb)).trans (Heap.get?_push_of_some _ e))
theorem init_long {R : Result → Shared → Prop} {g : Addr} {i j c : Int} {t u v : Tok} {n : Nat} (nh : A.handled = none) (hg : IsRange s.heap g i j c t u v) (big : Builtin.Range.small i j c = false)
    (hn : Builtin.Range.rangeSize i j c = n) (few : n ≤ 2 ^ 24) (L : Addr) (hL : s.heap.get? L = some { cls := .type "list", data := .seq #[] })
    (q : ∀ h2 tk acc c2, (∀ b o, b ≠ L → s.heap.get? b = some o → h2.get? b = some o) → h2.get? L = some { cls := .type "list", dict := none, data := .seq acc c2, slots := #[] } →
      ItemsOf (fun k v => ∃ t, v = .int (i + k * c) t) acc n → R (.ok (.ret .none)) { s with heap := h2, toks := tk }) :
    wpAny (model P w) A.in1 (Builtin.«list.__init__» ⟨[.ref L, .ref g], []⟩)
      (fun fin s2 => match fin with | .done f => R (.ok f) s2 | .again c2 => c2.quiet = true ∧ codeAny (model P w) A c2 R s2) (fun e s2 => R (.error e) s2) s := by
  have neG : L ≠ g := fun z => by rw [z, hg] at hL; simp at hL
  show wpAny _ _ (do let old ← Builtin.List.listItems (.ref L); Builtin.List.listUpdate (.ref L) (fun _ => #[]); letGo old.toList.reverse; Builtin.List.listExtendWith (.ref L) (.ref g) .none) _ _ s
  refine wpAny_bind ?_
  unfold Builtin.List.listItems
  refine wpAny_bind (wpAny_seqItems hL rfl (wpAny_pure ?_))
  show wpAny _ _ (updateSeq L (fun _ => #[]) >>= fun _ => letGo (#[] : Array Value).toList.reverse >>= fun _ => Builtin.List.listExtendWith (.ref L) (.ref g) .none) _ _ s
  refine wpAny_bind (wpAny_updateSeq hL rfl ?_)
  have L2 := Heap.get?_update_self (Obj.mapSeq (fun _ => (#[] : Array Value))) hL rfl
  have rem : ∀ b o, b ≠ L → s.heap.get? b = some o → (s.heap.update L (Obj.mapSeq (fun _ => (#[] : Array Value)))).get? b = some o :=
    fun b o nb e => (Heap.get?_update_other _ _ (Ne.symm nb)).trans e
  refine wpAny_bind (wpAny_letGo ?_)
  refine ext_long nh (rem g _ (Ne.symm neG) hg) big hn few L .none _ L2 fun h2 tk acc c2 keep hL2 its => ?_
  exact q h2 tk acc c2 (fun b o nb e => keep b o nb (rem b o nb e)) hL2 its
theorem list_range_any {Q : Value → Shared → Prop} {g : Addr} {i j c : Int} {t u v : Tok} {n : Nat} (nh : A.handled = none) (hg : IsRange s.heap g i j c t u v)
    (hn : Builtin.Range.rangeSize i j c = n) (few : n ≤ 2 ^ 24)
    (q : ∀ h2 tk acc c2, (∀ b o, s.heap.get? b = some o → h2.get? b = some o) →
      h2.get? s.heap.objs.size = some { cls := .type "list", dict := none, data := .seq acc c2, slots := #[] } → ItemsOf (fun k v => ∃ t, v = .int (i + k * c) t) acc n → Q (.ref s.heap.objs.size) { s with heap := h2, toks := tk }) :
    wpAny (model P w) A (call (.type "list") [.ref g]) Q E s := by
  cases hsm : Builtin.Range.small i j c with
  | true => exact call_list_range nh hg hsm hn few q
  | false =>
    refine callType_codes (Q₁ := fun ob s1 => ob = .ref s.heap.objs.size ∧ s1 = { s with heap := s.heap.push { cls := .type "list", data := .seq #[] } }) F.called_list (F.typeCall_list_1 _) F.entry_list_init (code_list_new _ ⟨rfl, rfl⟩) fun ob s1 z => ?_
    obtain ⟨rfl, rfl⟩ := z
    have hL : (s.heap.push { cls := .type "list", data := .seq #[] }).get? s.heap.objs.size = some { cls := .type "list", data := .seq #[] } := Heap.get?_push_size _ rfl
    refine ⟨⟨_, hL, rfl⟩, F.args_list_init_2 _ _, init_long (A := A.in1) nh (Heap.get?_push_of_some _ hg) hsm hn few _ hL fun h2 tk acc c2 keep hL2 its => ?_⟩
    exact ⟨rfl, q h2 tk acc c2 (fun b o e => keep b o (Nat.ne_of_lt (Heap.lt_size e)) (Heap.get?_push_of_some _ e)) hL2 its⟩
end
/-- the numbers i, i + c, .., n of them -/
def rgVc (i c : Int) (n : Nat) : List V := (List.range n).map fun k : Nat => V.int (i + (k : Int) * c)
theorem vals_rgc {i c : Int} {n : Nat} {acc : Array Value} (h : ItemsOf (fun k v => ∃ t, v = .int (i + k * c) t) acc n) : Vals (rgVc i c n) acc.toList := by
  have e : acc.toList.length = n := by rw [Array.length_toList]; exact h.1
  unfold rgVc
  rw [← e]
  refine vals_of_get acc.toList _ fun k u hk => ?_
  obtain ⟨t, rfl⟩ := h.2 k u (by rw [← hk, Array.getElem?_toList])
  exact ⟨t, rfl⟩
def tLstRg3 (ta : TA) : TE := fun σ H Q => ta σ H fun vs H1 => ∃ (i j c : Int) (n : Nat), vs = [.int i, .int j, .int c] ∧ c ≠ 0 ∧ Builtin.divisionGoesByPylong (j - i) c = false ∧ Builtin.Range.rangeSize i j c = n ∧ n ≤ 2 ^ 20 ∧ ∀ q, H1 q = none → Q (.ref q) (upd H1 q (.lst (rgVc i c n)))
theorem pe_listRg3 {X : Cx} {a b c : Expr} {ta : TA} {p pos p2 pos2 : Pos} (hc : X.calm = true) (hg : Gl X "list") (hm : X.mg "list" = none) (hg2 : Gl X "range") (hm2 : X.mg "range" = none) (ha : PA X [a, b, c] ta)
    (hs : starEach [a, b, c] X.env = (false, eval a X.env) :: starEach [b, c] X.env := by rfl) (hpl : (backTo pos2 (starEach [b, c] X.env)).any (·.1) = false := by rfl)
    (na : starEach [.Call (.Name "range" p2) [a, b, c] [] pos2] X.env = (false, eval (.Call (.Name "range" p2) [a, b, c] [] pos2) X.env) :: starEach [] X.env := by rfl) :
    PE X (.Call (.Name "list" p) [.Call (.Name "range" p2) [a, b, c] [] pos2] [] pos) (tLstRg3 ta) := by
  refine ⟨fun pins s σ H Q I h => ?_⟩
  refine Call_ (ld_blt I hg hm boot_list (callWith_type1 (args_cons (Call_ (ld_blt I hg2 hm2 boot_range (callWith_type1 (thn (ha.run pos2 pins s σ H _ I h) fun us s1 ⟨vs, H1, I1, r1, q1⟩ => ?_) hs hpl))) na) na))
  obtain ⟨i, j, k, n, e, c0, c1, c2, c3, q⟩ := q1
  subst e
  cases r1 with
  | cons r rr =>
    cases rr with
    | cons r' rr =>
      cases rr with
      | cons r'' rr =>
        cases rr
        obtain ⟨t, rfl⟩ := r
        obtain ⟨t', rfl⟩ := r'
        obtain ⟨t'', rfl⟩ := r''
        refine call_range_3 c0 (args_nil ?_) (.inl c1)
        have I2 : Inv X pins σ H1 { s1 with heap := s1.heap.push { cls := .type "range", data := .fields #[.int i t, .int j t', .int k t''] } } := I1.kept (t' := s1.toks) fun b o e => Heap.get?_push_of_some _ e
        refine list_range_any (n := n) (I2.ok.hd hc) (IsRange.new ..) c2 (by omega) fun h2 tk acc cc hk e2 hi => ?_
        refine ⟨.ref _, upd H1 _ (.lst (rgVc i k n)), I2.laid hk (Nat.le_refl _) (show ObjOk X.prog X.w _ _ _ (.lst (rgVc i k n)) from ⟨?_, acc.toList, cc, vals_rgc hi, ?_⟩), rfl, q _ (I2.hok.fresh (Nat.le_refl _))⟩
        · unfold rgVc
          rw [List.length_map, List.length_range, sizeLine_eq]; omega
        · rw [Array.toArray_toList]; exact e2
end Song

/-! ### LsV: list(d.values()) -/
namespace Song
open PySem PySem.Spec PyProof.Rows L2
def tLstVals (td : TE) : TE := fun σ H Q => td σ H fun x H1 => ∃ a kvs, x = V.ref a ∧ H1 a = some (.dK kvs) ∧ kvs.length ≤ 1000 ∧ ∀ q, H1 q = none → Q (.ref q) (upd H1 q (.lst (kvs.map (·.2))))
theorem vals_kv {kvs : List (Key × V)} {acc : List Value} {n : Nat} (hn : acc.length = n) (hk : kvs.length = n) (h : ∀ (i : Nat) (v : Value), acc[i]? = some v → ∃ k x, kvs[i]? = some (k, x) ∧ RelV x v) : Vals (kvs.map (·.2)) acc := by
  have e : kvs.map (·.2) = (List.range acc.length).map fun i => (kvs[i]?.map (·.2)).getD .non := by
    refine List.ext_getElem (by rw [List.length_map, List.length_map, List.length_range, hn, hk]) fun i h1 h2 => ?_
    rw [List.length_map] at h1
    rw [List.getElem_map, List.getElem_map, List.getElem_range, List.getElem?_eq_getElem h1]; rfl
  rw [e]
  refine vals_of_get acc _ fun j u hj => ?_
  obtain ⟨k, x, h1, h2⟩ := h j u hj
  rw [h1]
  exact h2
theorem pe_listVals {X : Cx} {o : Expr} {p pos apos mpos : Pos} {td : TE} (hc : X.calm = true) (hg : Gl X "list") (hm : X.mg "list" = none) (hd : PE X o td) (hbase : attributeBase o "values" X.env (eval o X.env) = eval o X.env := by rfl) (hline : (apos.endLine == mpos.line) = true := by rfl)
    (hse : starEach [Expr.Call (.Attribute o "values" apos) [] [] mpos] X.env = (false, eval (Expr.Call (.Attribute o "values" apos) [] [] mpos) X.env) :: starEach [] X.env := by rfl) :
    PE X (.Call (.Name "list" p) [.Call (.Attribute o "values" apos) [] [] mpos] [] pos) (tLstVals td) := by
  refine ⟨fun pins s σ H Q I h => ?_⟩
  refine Call_ (ld_blt I hg hm boot_list (callWith_type1 (args_cons (wpAny_Call_method0_late hbase hline (thn (hd.run pins s σ H _ I h) fun v s1 ⟨x, H1, I1, r1, a, kvs, ex, ha, hl, q⟩ => ?_)) hse) hse))
  subst ex
  obtain rfl : v = Value.ref a := r1
  obtain ⟨_, hsys, vs, rel, dof⟩ := dk_of I1.hok ha
  obtain ⟨ep, dat⟩ := dof.dictAt
  have dat2 := dat
  obtain ⟨ob, es, ho, ex, hdat, hko, hpr, hnd⟩ := dat2
  refine ⟨"dict", "dict.values", F.plainAttrs_dict, F.slot_dict_values, F.type_dict_values, ⟨ob, ho, ex.1⟩, fun b e => ?_, Calls.callWith_builtin rfl (PySem.evalArgs_none ?_)⟩
  · cases e
    exact ⟨ob, ho, ex.2.1⟩
  refine call_meetsIn F.slot_dict_values ⟨ob, ho, ex.1⟩ F.entry_dict_values (F.args_dict_values_1 _) (meets_dict_values (mixKind X.prog X.w) a hsys) ⟨⟨vs, dof⟩, ?_⟩
  have k1 : ∀ b u, s1.heap.get? b = some u → (s1.heap.push { cls := .type "dict_values", data := .fields #[.ref a] }).get? b = some u := fun b u e => Heap.get?_push_of_some _ e
  have hlv : vs.length = kvs.length := (KV.length rel).symm
  have I2 : Inv X pins σ H1 { s1 with heap := s1.heap.push { cls := .type "dict_values", data := .fields #[.ref a] } } := I1.kept (t' := s1.toks) k1
  refine args_nil (PySem.W.kdl_call (PySem.W.kdl_values (knd := mixKind X.prog X.w) (kvs := vs) (ep := ep)) (I.ok.hd hc) ⟨⟨_, Heap.get?_push_size _ rfl, rfl, rfl⟩, dat.keep k1⟩ (by rw [hlv, sizeLine_eq]; omega) fun h2 tk acc c2 keep hS its => ?_)
  have hvals : Vals (kvs.map (·.2)) acc.toList := by
    refine vals_kv (n := vs.length) (by rw [Array.length_toList]; exact its.1) hlv.symm fun i v e => ?_
    obtain ⟨k, hk⟩ := its.2 i v (by rw [← Array.getElem?_toList]; exact e)
    obtain ⟨x, h1, h2⟩ := KV.at' rel hk
    exact ⟨k, x, h1, h2⟩
  refine ⟨.ref _, upd H1 _ (.lst (kvs.map (·.2))), I2.laid keep (Nat.le_refl _) (show ObjOk X.prog X.w _ _ _ (.lst (kvs.map (·.2))) from ⟨?_, acc.toList, c2, hvals, ?_⟩), rfl, q _ (I2.hok.fresh (Nat.le_refl _))⟩
  · rw [List.length_map, sizeLine_eq]; omega
  · rw [Array.toArray_toList]; exact hS
end Song

/-! ### NiT: a list not in a tuple of lists; calls of oneself -/
namespace Song
open PySem PySem.Spec PyProof.Rows L2
theorem _root_.L2.Room.units65 {k : Nat} {A : Around} (r : Room k A) : A.units + 65 < cLine := by have := r.un; omega
def rNotInT (K : PySem.W.Frag) : R2 := fun x y H Q => ∃ d ds, Dp K H x d ∧ Dp K H y (.tuple ds) ∧ SeqAt.shaped d = true ∧ SeqAt.shaped (.tuple ds) = true ∧ Q (.bl (!ds.any fun z => PyData.eqv z d)) H
theorem op_notInT {X : Cx} (hu : X.A.units + 65 < cLine) : OpR X (compareOp .NotIn) (rNotInT X.K) := by
  intro pins s σ H x y v u Q I rx ry h
  obtain ⟨d, ds, hd, he, sd, se, q⟩ := h
  obtain ⟨as, r1⟩ := Dp.reads I d x v hd rx
  obtain ⟨bs, r2⟩ := Dp.reads I (.tuple ds) y u he ry
  exact SeqAt.notIn_tuple_reads r2 r1 (SeqAt.canLay_of_shaped se) (SeqAt.canLay_of_shaped sd) (room_in_shaped sd hu) ⟨.bl _, H, I, rfl, q⟩
/-- a call of oneself, with less left -/
def tRec (sp : Nat → Sp) (r : Nat) (t : TA) : TE := fun σ H Q => ∃ r', r' < r ∧ tCall (sp r') [] E0 t σ H Q
theorem pe_rec {X : Cx} {x : Str} {r : Nat} {sp : Nat → Sp} {e : Expr} {es : List Expr} {t : TA} {p pos : Pos} (ih : ∀ r', r' < r → Fn X.prog X.w X.K X.mg X.base x (r' + 2) (sp r')) (hr : Room (r + 1) X.A) (hg : Gl X x) (ha : PA X (e :: es) t)
    (hdb : (x == ("__debug__" : Str)) = false := by decide) (he : starEach (e :: es) X.env = (false, eval e X.env) :: starEach es X.env := by rfl) (hpl : (backTo pos (starEach es X.env)).any (·.1) = false := by rfl) :
    PE X (.Call (.Name x p) (e :: es) [] pos) (tRec sp r t) := by
  refine ⟨fun pins s σ H Q I h => ?_⟩
  obtain ⟨r', hlt, h⟩ := h
  exact (pe_fn (ih r' hlt) (hr.mono (by omega)) hg ha hdb he hpl).run pins s σ H Q I h
end Song

/-! ### Ev7: who can still come ahead; within, worst -/
namespace Song
open PySem L2
/-- singers of the lists that can still come ahead of a round -/
def moreA (last : List Int) (going most : Int) : Nat → List Int
  | 0 => []
  | n + 1 => moreA last going most n ++ List.replicate (max 0 (most - floorOf last going (n : Int))).toNat (n : Int)
def EvS.ahead (st : EvS) (song : Int) : List Int := (moreA st.last st.going (st.rounds.getD song.toNat 0) st.last.length).take (24 - st.rounds.length)
def EvS.within (st : EvS) (song : Int) : Int := (st.queue.idxOf song : Int) + 1 + (st.ahead song).length
/-- rounds are no greater than there are songs -/
structure EvB (st : EvS) : Prop where
  la : ∀ x ∈ st.last, 0 ≤ x ∧ x ≤ st.rounds.length
  go : 1 ≤ st.going ∧ st.going ≤ max 1 (st.rounds.length : Int)
  ro : ∀ r ∈ st.rounds, 1 ≤ r ∧ r ≤ st.rounds.length
theorem EvB.new (many : Int) : EvB (evNew many) := ⟨fun x hx => by
  have : x = 0 := (List.mem_replicate.mp hx).2
  rw [this]; show (0 : Int) ≤ 0 ∧ (0 : Int) ≤ ((0 : Nat) : Int); omega, ⟨Int.le_refl _, by show (1 : Int) ≤ max 1 _; omega⟩, fun r hr => by cases hr⟩
theorem mem_setAll {last : List Int} {n x : Int} : ∀ {ss : List Int} {last : List Int}, x ∈ setAll last ss n → x ∈ last ∨ x = n
  | [], _, h => .inl h
  | s :: r, last, h => by
    have h : x ∈ setAll (last.set s.toNat n) r n := h
    rcases mem_setAll (last := last) h with z | z
    · rcases List.mem_or_eq_of_mem_set z with y | y
      · exact .inl y
      · exact .inr y
    · exact .inr z
theorem EvB.num {st : EvS} (h : EvB st) {ss : List Int} (hi : InB st.last.length ss) (hn : ss ≠ []) : 1 ≤ st.num ss ∧ st.num ss ≤ (st.rounds.length : Int) + 1 := by
  unfold EvS.num roundFor
  have hm := foldl_max_mem
  have hne : ss.map (floorOf st.last st.going) ≠ [] := fun z => hn (List.map_eq_nil_iff.mp z)
  obtain ⟨s, hs, e⟩ : ∃ s ∈ ss, maxL (ss.map (floorOf st.last st.going)) = floorOf st.last st.going s := by
    cases hc : ss.map (floorOf st.last st.going) with
    | nil => exact absurd hc hne
    | cons a r =>
      have := foldl_max_mem r a
      rw [← hc] at this
      obtain ⟨s, hs, e⟩ := List.mem_map.mp this
      exact ⟨s, hs, e.symm⟩
  rw [e]
  unfold floorOf
  obtain ⟨s0, s1⟩ := hi s hs
  have hl : st.last.getD s.toNat 0 ∈ st.last := by
    rw [List.getD_eq_getElem?_getD, List.getElem?_eq_getElem (by omega)]
    exact List.getElem_mem _
  have h1 := h.la _ hl
  have h2 := h.go
  omega
theorem EvB.wish {st : EvS} (h : EvB st) {ss : List Int} (hi : InB st.last.length ss) (hn : ss ≠ []) : EvB (st.wish ss) := by
  have hnum := h.num hi hn
  have hl : ((st.wish ss).rounds.length : Int) = (st.rounds.length : Int) + 1 := by
    show (((st.rounds ++ [_]).length : Nat) : Int) = _
    rw [List.length_append, List.length_singleton]; omega
  refine ⟨fun x hx => ?_, ⟨h.go.1, ?_⟩, fun r hr => ?_⟩
  · rw [hl]
    rcases mem_setAll (last := st.last) hx with z | z
    · have := h.la x z; omega
    · rw [z]; omega
  · have := h.go.2
    show st.going ≤ _
    omega
  · rw [hl]
    rcases List.mem_append.mp hr with z | z
    · have := h.ro r z; omega
    · rw [List.mem_singleton.mp z]; omega
theorem EvB.sing {st : EvS} (h : EvB st) (ok : EvOk st) : EvB st.sing := by
  unfold EvS.sing
  cases e : st.next with
  | none => exact ⟨h.la, h.go, h.ro⟩
  | some s =>
    have hs := ok.inb s (EvS.next_mem e)
    have hm : st.rounds.getD s.toNat 0 ∈ st.rounds := by
      rw [List.getD_eq_getElem?_getD, List.getElem?_eq_getElem (by omega)]
      exact List.getElem_mem _
    have := h.ro _ hm
    exact ⟨h.la, ⟨this.1, by show st.rounds.getD _ _ ≤ max 1 (st.rounds.length : Int); omega⟩, h.ro⟩
theorem EvB.out {st : EvS} (h : EvB st) (n : Int) : EvB (st.out n) := ⟨h.la, h.go, h.ro⟩
theorem moreA_len {last : List Int} {going most : Int} (hg : 1 ≤ going) (hm : most ≤ 24) : ∀ n, (moreA last going most n).length ≤ 24 * n
  | 0 => Nat.le_refl _
  | n + 1 => by
    have ih := moreA_len (last := last) hg hm n
    show (moreA last going most n ++ _).length ≤ _
    rw [List.length_append, List.length_replicate]
    have : floorOf last going (n : Int) ≥ going := by unfold floorOf; omega
    omega
theorem moreA_in {last : List Int} {going most : Int} : ∀ {n : Nat} {x : Int}, x ∈ moreA last going most n → 0 ≤ x ∧ x < n
  | 0, _, h => by cases h
  | n + 1, x, h => by
    rcases List.mem_append.mp h with z | z
    · have := moreA_in z; omega
    · rw [(List.mem_replicate.mp z).2]; omega
theorem rowsIn {K : PySem.W.Frag} {H : Hp} {b : Addr} {x : Int} {n : Nat} (h : H b = some (.lst [V.int x])) : ∀ v ∈ List.replicate n (V.ref b), ∃ c, v = .ref c ∧ SqL K H c ([x].map V.int) := fun v hv => ⟨b, (List.mem_replicate.mp hv).2, SqL.of h⟩
/-- lists of one singer each, in the heap -/
def Ones (K : PySem.W.Frag) (H : Hp) (vs : List V) (xs : List Int) : Prop := vs.length = xs.length ∧ ∀ (i : Nat) v, vs[i]? = some v → ∃ c x, xs[i]? = some x ∧ v = .ref c ∧ SqL K H c ([x].map V.int)
theorem Ones.mono {K : PySem.W.Frag} {H H' : Hp} {vs : List V} {xs : List Int} (s : Same H H') (h : Ones K H vs xs) : Ones K H' vs xs := ⟨h.1, fun i v e => by
  obtain ⟨c, x, h1, h2, h3⟩ := h.2 i v e
  exact ⟨c, x, h1, h2, s.seq h3⟩⟩
theorem Ones.app {K : PySem.W.Frag} {H : Hp} {vs ws : List V} {ps qs : List Int} (h : Ones K H vs ps) (g : Ones K H ws qs) : Ones K H (vs ++ ws) (ps ++ qs) := by
  refine ⟨by rw [List.length_append, List.length_append, h.1, g.1], fun i v e => ?_⟩
  by_cases c : i < vs.length
  · rw [List.getElem?_append_left c] at e
    rw [List.getElem?_append_left (by rw [← h.1]; exact c)]
    exact h.2 i v e
  · rw [List.getElem?_append_right (by omega)] at e
    rw [List.getElem?_append_right (by rw [← h.1]; omega), ← h.1]
    exact g.2 _ v e
theorem Ones.rep {K : PySem.W.Frag} {H : Hp} {b : Addr} {x : Int} (n : Nat) (h : H b = some (.lst [V.int x])) : Ones K H (List.replicate n (V.ref b)) (List.replicate n x) := by
  refine ⟨by rw [List.length_replicate, List.length_replicate], fun i v e => ?_⟩
  have hi : i < n := by
    have := (List.getElem?_eq_some_iff.mp e).1
    rwa [List.length_replicate] at this
  rw [List.getElem?_replicate, if_pos hi] at e
  exact ⟨b, x, by rw [List.getElem?_replicate, if_pos hi], (Option.some.inj e).symm, SqL.of h⟩
theorem Ones.take {K : PySem.W.Frag} {H : Hp} {vs : List V} {ps : List Int} (n : Nat) (h : Ones K H vs ps) : Ones K H (vs.take n) (ps.take n) := by
  refine ⟨by rw [List.length_take, List.length_take, h.1], fun i v e => ?_⟩
  have hi : i < n := by
    have := (List.getElem?_eq_some_iff.mp e).1
    rw [List.length_take] at this; omega
  rw [List.getElem?_take_of_lt hi] at e
  rw [List.getElem?_take_of_lt hi]
  exact h.2 i v e
section
variable {P : Program} {w : World} {K : PySem.W.Frag} {mg : Str → Option Value} {base : Heap}
theorem sc_more_ahead : FnScope ["last", "going", "most", "wished", "found", "singer"] ["last", "going", "most", "wished"] (defScope s_more_ahead) := ⟨rfl, rfl, rfl, by decide +kernel, rfl, by decide +kernel, by decide +kernel⟩
def sp_more_ahead (K : PySem.W.Frag) : Sp := fun vs H Q _ => ∃ (a : Addr) (last : List Int) (going most : Int) (n : Nat), vs = [.ref a, .int going, .int most, .int n] ∧ SqL K H a (last.map V.int) ∧ last.length ≤ 6 ∧ 1 ≤ going ∧ most ≤ 24 ∧ n ≤ 24 ∧
  ∀ l H' cs, H l = none → Same H H' → H' l = some (.lst cs) → Ones K H' cs ((moreA last going most last.length).take (24 - n)) → Q (.ref l) H'
theorem max_iteZ (j : Int) : (if j > 0 then j else 0) = max 0 j := by split <;> omega
theorem fn_more_ahead (T : Tx K mg) : Fn P w K mg base "more_ahead" 2 (sp_more_ahead K) := by
  obtain ⟨fd, F⟩ := T.d_more_ahead
  refine ⟨_, fd, _, F.ok (CX := CX0) sc_more_ahead (fun vs H Q E h => ?_) (fun cdv A outer s H vs Q E hr h => ?_), T.g_more_ahead, F.kp, F.bindsN fun _ _ _ _ _ _ us hl => match us, hl with | [_, _, _, _], _ => rfl⟩
  · obtain ⟨a, last, going, most, n, rfl, _⟩ := h; rfl
  · obtain ⟨a, last, going, most, n, rfl, ha, l6, gg1, m24, n24, q⟩ := h
    refine ⟨_, PSs.nox (pss_cons (ps_set (i := 4) sc_more_ahead.nd rfl (by first | exact Or.inl rfl | exact Or.inr rfl) (pe_lst pa_nil))
      (pss_cons (ps_for PassesOwn.never rfl (pi_range1 (by rfl) T.range (pa_cons (pe_callB (show CallR _ _ (rLenQ K) from call_len_seq) (by rfl) T.len (by decide +kernel) (pa_cons (pv 0) pa_nil)) pa_nil)) (pg_name (i := 5) sc_more_ahead.nd rfl (by first | exact Or.inl rfl | exact Or.inr rfl))
      (pss_one (ps_expr (show PE _ _ (tBM K _ _ _ _) from pe_bm PySem.F.plainAttrs_list PySem.F.slot_list_extend PySem.F.type_list_extend mt_extend (pv 4) (pa_cons (pe_op op_rep (pe_lst (pa_cons (pe_lst (pa_cons (pv 5) pa_nil)) pa_nil)) (pe_callB (call_max2 (by rfl)) (by rfl) T.max (by decide +kernel) (pa_cons pe_int (pa_cons (pe_op op_sub (pv 2) (pe_fn (fn_floor_of T) (hr.mono (by first | decide | omega)) (by rfl) (pa_cons (pv 0) (pa_cons (pv 1) (pa_cons (pv 5) pa_nil))))) pa_nil)))) pa_nil)))))
      (pss_one (ps_ret (pe_slice (show SlR _ (rSlL K) from sl_list) (pv 4) po_none (po_some (pe_op op_sub (pe_gi T.c_MOST_SONGS (by rfl)) (pv 3)))))))), ?_⟩
    refine ⟨Nat.zero_le _, fun l nl => ?_⟩
    refine to_new nl fun H1 s1 hl => ?_
    refine ⟨_, rfl, a, _, rfl, .inl (s1.seq ha), _, rfl, by rw [List.length_map]; omega, by rw [List.length_map]; omega, ?_⟩
    rw [List.length_map, show ((last.length : Int)).toNat = last.length by omega]
    refine for_range (lo := 0) (fun i σ H' => ∃ (x5 : Option V) (cs : List V), σ = [some (.ref a), some (.int going), some (.int most), some (.int n), some (.ref l), x5] ∧ Same H H' ∧ H' l = some (.lst cs) ∧ Ones K (off [l] H') cs (moreA last going most i)) ?_ ?_ ?_
    · exact ⟨_, [], rfl, s1, hl, rfl, fun i v e => by simp at e⟩
    · rintro i σ G hi ⟨x5, cs, rfl, g, hlG, hO⟩
      refine ⟨_, rfl, .inl ⟨rfl, _, SqL.of hlG⟩, _, rfl, by show 1 ≤ sizeLine; decide, fun b nb => ?_⟩
      refine to_new nb fun G1 g1 hb => ?_
      refine ⟨by show 1 ≤ sizeLine; decide, fun c nc => ?_⟩
      refine to_new nc fun G2 g2 hc => ?_
      have g02 := g.trans (g1.trans g2)
      refine ⟨_, rfl, _, rfl, _, rfl, _, rfl, a, last, going, _, rfl, g02.seq ha, by omega, by omega, ?_⟩
      rw [show (0 + (i : Int)) = (i : Int) by omega]
      refine ⟨_, _, rfl, rfl, _, _, rfl, ?_⟩
      rw [max_iteZ]
      have fl : floorOf last going (i : Int) ≥ going := by unfold floorOf; omega
      refine ⟨c, _, _, rfl, rfl, hc, by omega, by omega, ?_, fun d nd => ?_⟩
      · show 1 * _ ≤ sizeLine
        have := lt_line (n := (max 0 (most - floorOf last going (i : Int))).toNat) (by omega)
        omega
      have erep : (List.replicate (max 0 (most - floorOf last going (i : Int))).toNat [V.ref b]).flatten = List.replicate (max 0 (most - floorOf last going (i : Int))).toNat (V.ref b) := by
        generalize (max 0 (most - floorOf last going (i : Int))).toNat = k
        induction k with
        | zero => rfl
        | succ k ih => rw [List.replicate_succ, List.flatten_cons, ih]; rfl
      rw [erep]
      refine to_new nd fun G3 g3 hd => ?_
      have ml := moreA_len (last := last) gg1 m24 i
      have hlG3 := (g1.trans (g2.trans g3)) _ _ hlG
      refine ⟨l, d, _, _, rfl, rfl, hlG3, hd, ?_, ?_⟩
      · rw [hO.1, List.length_replicate]
        have := lt_line (n := (moreA last going most i).length + (max 0 (most - floorOf last going (i : Int))).toNat) (by omega)
        omega
      refine to_put fun G4 f4 h4 => ?_
      have nbl : b ≠ l := (ne_of_none hlG nb).symm
      have hb3 : (off [l] G3) b = some (.lst [V.int (0 + (i : Int))]) := by
        rw [off_out (by simpa using nbl)]
        exact (g2.trans g3) _ _ hb
      rw [show (0 + (i : Int)) = (i : Int) by omega] at hb3
      refine ⟨_, _, rfl, f4.back (g02.trans g3) (fun x hx => by rw [List.mem_singleton.mp hx]; exact nl), h4, ?_⟩
      exact ((hO.mono (off_mono (g1.trans (g2.trans g3)))).app (Ones.rep _ hb3)).mono (Fra.off f4)
    · rintro σ G ⟨x5, cs, rfl, g, hlG, hO⟩
      have e : (24 : Int) - (n : Int) = ((24 - n : Nat) : Int) := by omega
      refine ⟨_, rfl, _, rfl, _, _, rfl, rfl, ((24 - n : Nat) : Int), congrArg V.int e, l, _, rfl, SqL.of hlG, fun p np => ?_⟩
      rw [cut_head]
      refine to_new np fun G1 g1 hp => ?_
      exact q p G1 _ (g.free np) (g.trans g1) hp (((hO.mono (off_le _ _)).mono g1).take _)
theorem sc_Evening_ahead_of : FnScope ["self", "song"] ["self", "song"] (defScope s_Evening_ahead_of) := ⟨rfl, rfl, rfl, by decide +kernel, rfl, by decide +kernel, by decide +kernel⟩
def sp_ahead_of (K : PySem.W.Frag) : Sp := fun vs H Q _ => ∃ (S : List Addr) (p : Addr) (A : Ad) (st : EvS) (n : Int), vs = [.ref p, .int n] ∧ Ev K S H p A st ∧ EvOk st ∧ EvB st ∧ n ∈ st.waiting ∧
  ∀ l H' cs, H l = none → Same H H' → H' l = some (.lst cs) → Ones K H' cs (st.ahead n) → Q (.ref l) H'
theorem EvB.round {st : EvS} (h : EvB st) (ok : EvOk st) {n : Int} (hn : n ∈ st.waiting) : 1 ≤ st.rounds.getD n.toNat 0 ∧ st.rounds.getD n.toNat 0 ≤ 24 := by
  obtain ⟨n0, n1⟩ := ok.inb n hn
  have hm : st.rounds.getD n.toNat 0 ∈ st.rounds := by
    rw [List.getD_eq_getElem?_getD, List.getElem?_eq_getElem (by omega)]
    exact List.getElem_mem _
  have := h.ro _ hm
  have := ok.r24
  omega
theorem me_Evening_ahead_of (T : Tx K mg) : Me P w K mg base (He.ga K "Evening") "ahead_of" 3 (sp_ahead_of K) := by
  obtain ⟨fd, F⟩ := T.d_Evening_ahead_of
  refine ⟨_, fd, _, F.ok (CX := CX0) sc_Evening_ahead_of (fun vs H Q E h => ?_) (fun cdv A outer s H vs Q E hr h => ?_), T.cls_Evening, T.me_Evening_ahead_of, F.bindsN fun _ _ _ _ _ _ us hl => match us, hl with | [_, _], _ => rfl⟩
  · obtain ⟨S, p, A, st, n, rfl, _⟩ := h; rfl
  · obtain ⟨S, p, A', st, n, rfl, ev, ok, eb, hn, q⟩ := h
    obtain ⟨⟨cs, c, hq⟩, sub, dom, few⟩ := ev
    obtain ⟨dx, hp⟩ := c.pp
    refine ⟨_, PSs.nox (pss_one (ps_ret (pe_fn (fn_more_ahead T) (hr.mono (by first | decide | omega)) (by rfl) (pa_cons (show PE _ _ (tFld K _ _) from pe_fld (pv 0) rfl) (pa_cons (show PE _ _ (tFld K _ _) from pe_fld (pv 0) rfl) (pa_cons (pe_ix (show IxR _ (rIxL K) from ix_list) (show PE _ _ (tFld K _ _) from pe_fld (pv 0) rfl) (pv 1) (fun _ _ => rfl)) (pa_cons (pe_callB (show CallR _ _ (rLenQ K) from call_len_seq) (by rfl) T.len (by decide +kernel) (pa_cons (show PE _ _ (tFld K _ _) from pe_fld (pv 0) rfl) pa_nil)) pa_nil))))))), ?_⟩
    obtain ⟨n0, n1⟩ := ok.inb n hn
    have hr := eb.round ok hn
    have r24 := ok.r24
    refine ⟨_, rfl, p, _, dx, _, _, rfl, hp, T.cls_Evening, T.na_Evening_last, evF_last _ _, _, rfl, p, _, dx, _, _, rfl, hp, T.cls_Evening, T.na_Evening_going, evF_going _ _,
      _, rfl, p, _, dx, _, _, rfl, hp, T.cls_Evening, T.na_Evening_rounds, evF_rounds _ _, _, rfl, A'.ro, _, _, _, rfl, rfl, SqL.of c.ro, at_int n0 n1,
      _, rfl, p, _, dx, _, _, rfl, hp, T.cls_Evening, T.na_Evening_rounds, evF_rounds _ _, A'.ro, _, rfl, .inl (SqL.of c.ro), A'.la, st.last, st.going, st.rounds.getD n.toNat 0, st.rounds.length, ?_, SqL.of c.la, ok.six, eb.go.1, hr.2, r24, fun l H1 cs1 nl s1 hl hO => q l H1 cs1 nl s1 hl hO⟩
    rw [List.length_map]; rfl
theorem sc_Evening_within : FnScope ["self", "song"] ["self", "song"] (defScope s_Evening_within) := ⟨rfl, rfl, rfl, by decide +kernel, rfl, by decide +kernel, by decide +kernel⟩
def sp_within (K : PySem.W.Frag) : Sp := fun vs H Q _ => ∃ (S : List Addr) (p : Addr) (A : Ad) (st : EvS) (n : Int), vs = [.ref p, .int n] ∧ Ev K S H p A st ∧ EvOk st ∧ EvB st ∧ n ∈ st.waiting ∧ ∀ H', Same H H' → Q (.int (st.within n)) H'
theorem idx_at : ∀ {xs : List Int} {n : Int}, n ∈ xs → ∃ z : V, (xs.map V.int)[xs.idxOf n]? = some z ∧ eqV z (.int n) = true ∧ ∀ (m : Nat) (z' : V), m < xs.idxOf n → (xs.map V.int)[m]? = some z' → eqV z' (.int n) = false
  | x :: xs, n, h => by
    by_cases e : x = n
    · subst e
      rw [List.idxOf_cons_self]
      refine ⟨.int x, rfl, ?_, fun m z' hm => by omega⟩
      show (x == x) = true
      exact beq_self_eq_true x
    · have hm : n ∈ xs := (List.mem_cons.mp h).resolve_left (fun z => e z.symm)
      obtain ⟨z, h1, h2, h3⟩ := idx_at hm
      have ei : (x :: xs).idxOf n = xs.idxOf n + 1 := by
        rw [List.idxOf_cons, show (x == n) = false from beq_eq_false_iff_ne.mpr e]; rfl
      rw [ei]
      refine ⟨z, by simpa using h1, h2, fun m z' hm hz => ?_⟩
      cases m with
      | zero =>
        have hz : V.int x = z' := by simpa using hz
        rw [← hz]
        show (x == n) = false
        exact beq_eq_false_iff_ne.mpr e
      | succ m => exact h3 m z' (by omega) (by simpa using hz)
theorem queue_mem {st : EvS} {n : Int} : n ∈ st.queue ↔ n ∈ st.waiting := (inTurn_perm _ _).mem_iff
theorem me_Evening_within (T : Tx K mg) : Me P w K mg base (He.ga K "Evening") "within" 4 (sp_within K) := by
  obtain ⟨fd, F⟩ := T.d_Evening_within
  refine ⟨_, fd, _, F.ok (CX := CX0) sc_Evening_within (fun vs H Q E h => ?_) (fun cdv A outer s H vs Q E hr h => ?_), T.cls_Evening, T.me_Evening_within, F.bindsN fun _ _ _ _ _ _ us hl => match us, hl with | [_, _], _ => rfl⟩
  · obtain ⟨S, p, A, st, n, rfl, _⟩ := h; rfl
  · obtain ⟨S, p, A', st, n, rfl, ev, ok, eb, hn, q⟩ := h
    obtain ⟨dx, hp⟩ := ev.pp
    refine ⟨_, PSs.nox (pss_cons (ps_expr (pe_me (me_Evening_look_at T) (hr.mono (by first | decide | omega)) (pv 0) (pa_cons (pv 1) pa_nil)))
      (pss_one (ps_ret (pe_op op_add (pe_op op_add (show PE _ _ (tBM K _ _ _ _) from pe_bm PySem.F.plainAttrs_list PySem.F.slot_list_index PySem.F.type_list_index (show MtR _ _ (rIndex K) from mt_index) (pe_me0 (me_Evening_waits T) (hr.mono (by first | decide | omega)) (pv 0)) (pa_cons (pv 1) pa_nil)) pe_int) (pe_callB (show CallR _ _ (rLenQ K) from call_len_seq) (by rfl) T.len (by decide +kernel) (pa_cons (pe_me (me_Evening_ahead_of T) (hr.mono (by first | decide | omega)) (pv 0) (pa_cons (pv 1) pa_nil)) pa_nil)))))), ?_⟩
    refine ⟨_, rfl, p, dx, _, rfl, hp, evF_no _ _ (by decide +kernel), _, rfl, S, p, A', st, n, rfl, ev, hn, ?_⟩
    refine ⟨_, rfl, p, dx, _, rfl, hp, evF_no _ _ (by decide +kernel), S, p, A', st, rfl, ev, ok, fun l H1 nl s1 hl => ?_⟩
    obtain ⟨z, h1, h2, h3⟩ := idx_at (xs := st.queue) (queue_mem.mpr hn)
    refine ⟨.inl ⟨rfl, _, SqL.of hl⟩, _, rfl, l, _, _, _, z, rfl, rfl, SqL.of hl, rfl, flat_ints _, h1, h2, h3, _, _, rfl, rfl, ?_⟩
    have hp1 := s1 _ _ hp
    refine ⟨_, rfl, p, dx, _, rfl, hp1, evF_no _ _ (by decide +kernel), _, rfl, S, p, A', st, n, rfl, ev.mono s1, ok, eb, hn, fun l2 H2 cs nl2 s2 hl2 hO => ?_⟩
    refine ⟨l2, _, rfl, .inl (SqL.of hl2), _, _, rfl, rfl, ?_⟩
    rw [hO.1]
    exact q _ (s1.trans s2)
theorem sc_Evening_worst : FnScope ["self", "song", "singers"] ["self", "song"] (defScope s_Evening_worst) := ⟨rfl, rfl, rfl, by decide +kernel, rfl, by decide +kernel, by decide +kernel⟩
def sp_worst (K : PySem.W.Frag) : Sp := fun vs H Q _ => ∃ (S : List Addr) (p : Addr) (A : Ad) (st : EvS) (n : Int), vs = [.ref p, .int n] ∧ Ev K S H p A st ∧ EvOk st ∧ EvB st ∧ n ∈ st.waiting ∧
  ∀ l H' cs, H l = none → Same H H' → H' l = some (.lst cs) → cs.length = (st.ahead n).length → (∀ (i : Nat) v, cs[i]? = some v → ∃ b x, (st.ahead n)[i]? = some x ∧ v = .ref b ∧ off [l] H' b = some (.lst ([x].map V.int)) ∧ H b = none) → Q (.ref l) H'
theorem ahead_len (st : EvS) (n : Int) : (st.ahead n).length ≤ 24 := by
  unfold EvS.ahead
  rw [List.length_take]; omega
theorem me_Evening_worst (T : Tx K mg) : Me P w K mg base (He.ga K "Evening") "worst" 4 (sp_worst K) := by
  obtain ⟨fd, F⟩ := T.d_Evening_worst
  refine ⟨_, fd, _, F.ok (CX := CX0) sc_Evening_worst (fun vs H Q E h => ?_) (fun cdv A outer s H vs Q E hr h => ?_), T.cls_Evening, T.me_Evening_worst, F.bindsN fun _ _ _ _ _ _ us hl => match us, hl with | [_, _], _ => rfl⟩
  · obtain ⟨S, p, A, st, n, rfl, _⟩ := h; rfl
  · obtain ⟨S, p, A', st, n, rfl, ev, ok, eb, hn, q⟩ := h
    obtain ⟨dx, hp⟩ := ev.pp
    refine ⟨_, PSs.nox (pss_cons (ps_expr (pe_me (me_Evening_look_at T) (hr.mono (by first | decide | omega)) (pv 0) (pa_cons (pv 1) pa_nil)))
      (pss_one (ps_ret (pe_lc (own := [("singers", 2)]) (g := (gName 2)) (tt := tYes) (by rfl) sc_Evening_worst.nd (show PI _ _ _ (iList K _) from pi_list (pe_me (me_Evening_ahead_of T) (hr.mono (by first | decide | omega)) (pv 0) (pa_cons (pv 1) pa_nil))) (blkOk_by (by kernel_rfl)) (fun _ _ _ _ _ => (pg_name (i := 2) sc_Evening_worst.nd rfl (by first | exact Or.inl rfl | exact Or.inr rfl))) (fun _ _ _ _ _ => pts_nil) (fun _ _ _ _ _ => (pe_callTy (show CallR _ _ (rListO K) from call_list_of) (by rfl) T.list (by decide +kernel) (pa_cons (pv 2) pa_nil))))))), ?_⟩
    refine ⟨_, rfl, p, dx, _, rfl, hp, evF_no _ _ (by decide +kernel), _, rfl, S, p, A', st, n, rfl, ev, hn, ?_⟩
    refine ⟨_, rfl, p, dx, _, rfl, hp, evF_no _ _ (by decide +kernel), _, rfl, S, p, A', st, n, rfl, ev, ok, eb, hn, fun l H1 cs nl s1 hl hO => ?_⟩
    have al := ahead_len st n
    refine ⟨l, rfl, ⟨_, SqL.of hl⟩, fun D nD => lc_all walk_list sqL_mono (SqL.of hl) (fun i H' y => ∃ b x, (st.ahead n)[i]? = some x ∧ y = .ref b ∧ H' b = some (.lst ([x].map V.int)) ∧ H b = none) ?_ nD (by rw [hO.1]; omega) ?_ ?_ gname_mono⟩
    · rintro i X1 X2 y s ⟨b, x, h1, h2, h3, h4⟩
      exact ⟨b, x, h1, h2, s _ _ h3, h4⟩
    · rintro k x G1 G2 acc hk g1 hD ⟨rfl, hx⟩ kk hkk
      obtain ⟨c, y, hy, rfl, hc⟩ := hO.2 k x hx
      refine ⟨rfl, _, rfl, c, _, rfl, .inl (g1.seq hc), fun u nu => hkk _ _ (Same.new nu) ⟨u, y, hy, rfl, ?_, (s1.trans g1).free nu⟩⟩
      rw [off_out (by simp; exact (ne_of_none hD nu).symm)]
      exact upd_same
    · intro ys H2 s2 hD hyl hys
      exact q D H2 ys (s1.free nD) (s1.trans s2) hD (by rw [hyl, hO.1]) fun i v e => hys i v e
end
end Song

/-! ### Gp1: rows of singers: where each sings, least gaps (plain) -/
namespace Song
/-- the places of the rows with s -/
def spots (s : Int) (R : List (List Int)) : List Int := (List.range R.length).filterMap fun i => if s ∈ R.getD i [] then some (i : Int) else none
def diffs : List Int → List Int
  | a :: b :: r => (b - a - 1) :: diffs (b :: r)
  | _ => []
def minO : List Int → Option Int
  | [] => none
  | a :: r => some (r.foldl min a)
theorem foldl_min_le : ∀ (r : List Int) (a : Int), r.foldl min a ≤ a ∧ ∀ y ∈ r, r.foldl min a ≤ y
  | [], a => ⟨Int.le_refl _, fun y h => by cases h⟩
  | b :: r, a => by
    obtain ⟨h1, h2⟩ := foldl_min_le r (min a b)
    have e : (b :: r).foldl min a = r.foldl min (min a b) := rfl
    rw [e]
    refine ⟨by omega, fun y hy => ?_⟩
    rcases List.mem_cons.mp hy with q | q
    · omega
    · exact h2 y q
theorem foldl_min_mem : ∀ (r : List Int) (a : Int), r.foldl min a ∈ a :: r
  | [], a => by simp
  | b :: r, a => by
    have h := foldl_min_mem r (min a b)
    have e : (b :: r).foldl min a = r.foldl min (min a b) := rfl
    rw [e]
    rcases List.mem_cons.mp h with q | q
    · rw [q]
      by_cases c : a ≤ b
      · rw [Int.min_eq_left c]; simp
      · rw [Int.min_eq_right (by omega)]; simp
    · simp [q]
theorem minO_eq {ns : List Int} {m : Int} (h : m ∈ ns) (hl : ∀ y ∈ ns, m ≤ y) : minO ns = some m := by
  cases ns with
  | nil => cases h
  | cons a r =>
    obtain ⟨h1, h2⟩ := foldl_min_le r a
    have h3 := hl _ (foldl_min_mem r a)
    show some _ = some m
    congr 1
    rcases List.mem_cons.mp h with q | q
    · omega
    · have := h2 m q; omega
theorem minO_some {ns : List Int} {m : Int} (h : minO ns = some m) : m ∈ ns ∧ ∀ y ∈ ns, m ≤ y := by
  cases ns with
  | nil => cases h
  | cons a r =>
    obtain ⟨h1, h2⟩ := foldl_min_le r a
    have e : r.foldl min a = m := Option.some.inj h
    refine ⟨by rw [← e]; exact foldl_min_mem r a, fun y hy => ?_⟩
    rcases List.mem_cons.mp hy with q | q
    · omega
    · have := h2 y q; omega
theorem minO_none {ns : List Int} : minO ns = none ↔ ns = [] := by
  cases ns with
  | nil => exact ⟨fun _ => rfl, fun _ => rfl⟩
  | cons a r => exact ⟨fun h => (nomatch h), fun h => (nomatch h)⟩
theorem minO_congr {ns ms : List Int} (h : ∀ x, x ∈ ns ↔ x ∈ ms) : minO ns = minO ms := by
  cases e : minO ms with
  | none =>
    rw [minO_none] at e ⊢
    rw [e] at h
    exact List.eq_nil_iff_forall_not_mem.mpr fun x hx => by simpa using (h x).mp hx
  | some m =>
    obtain ⟨h1, h2⟩ := minO_some e
    exact minO_eq ((h m).mpr h1) fun y hy => h2 y ((h y).mp hy)
theorem range_filterMap_congr {β : Type} {n : Nat} {f g : Nat → Option β} (h : ∀ i, i < n → f i = g i) : (List.range n).filterMap f = (List.range n).filterMap g := by
  induction n with
  | zero => rfl
  | succ n ih =>
    rw [List.range_succ, List.filterMap_append, List.filterMap_append, ih fun i hi => h i (by omega)]
    congr 1
    simp only [List.filterMap_cons, List.filterMap_nil]
    rw [h n (by omega)]
theorem spots_nil (s : Int) : spots s [] = [] := rfl
theorem spots_snoc (s : Int) (R : List (List Int)) (r : List Int) : spots s (R ++ [r]) = spots s R ++ (if s ∈ r then [(R.length : Int)] else []) := by
  unfold spots
  rw [List.length_append, List.length_singleton, List.range_succ, List.filterMap_append]
  congr 1
  · refine range_filterMap_congr fun i hi => ?_
    rw [show (R ++ [r]).getD i [] = R.getD i [] by rw [List.getD_eq_getElem?_getD, List.getD_eq_getElem?_getD, List.getElem?_append_left hi]]
  · simp only [List.filterMap_cons, List.filterMap_nil]
    rw [show (R ++ [r]).getD R.length [] = r by rw [List.getD_eq_getElem?_getD, List.getElem?_append_right (Nat.le_refl _)]; simp]
    by_cases c : s ∈ r
    · rw [if_pos c, if_pos c]
    · rw [if_neg c, if_neg c]
theorem spots_mem {s : Int} {R : List (List Int)} {x : Int} : x ∈ spots s R ↔ ∃ i : Nat, i < R.length ∧ s ∈ R.getD i [] ∧ x = i := by
  unfold spots
  rw [List.mem_filterMap]
  constructor
  · rintro ⟨i, hi, h⟩
    rw [List.mem_range] at hi
    by_cases c : s ∈ R.getD i []
    · rw [if_pos c] at h
      exact ⟨i, hi, c, (Option.some.inj h).symm⟩
    · rw [if_neg c] at h; cases h
  · rintro ⟨i, hi, c, rfl⟩
    exact ⟨i, List.mem_range.mpr hi, by rw [if_pos c]⟩
theorem snoc_ind {α : Type} {P : List α → Prop} (h0 : P []) (hs : ∀ l a, P l → P (l ++ [a])) : ∀ l, P l := fun l => by
  have h : ∀ n (l : List α), l.length = n → P l := fun n => by
    induction n with
    | zero => intro l hl; rw [List.eq_nil_of_length_eq_zero hl]; exact h0
    | succ n ih =>
      intro l hl
      have hne : l ≠ [] := fun e => by rw [e] at hl; cases hl
      rw [← List.dropLast_concat_getLast hne]
      exact hs _ _ (ih _ (by rw [List.length_dropLast]; omega))
  exact h _ l rfl
theorem spots_sorted (s : Int) (R : List (List Int)) : (spots s R).Pairwise (· < ·) := by
  refine snoc_ind (P := fun R => (spots s R).Pairwise (· < ·)) List.Pairwise.nil (fun l a h => ?_) R
  rw [spots_snoc]
  refine List.pairwise_append.mpr ⟨h, by split <;> simp, fun x hx y hy => ?_⟩
  obtain ⟨i, hi, _, rfl⟩ := spots_mem.mp hx
  split at hy
  · rw [List.mem_singleton.mp hy]; omega
  · cases hy
theorem diffs_snoc : ∀ (l : List Int) (n : Int), diffs (l ++ [n]) = diffs l ++ (match l.getLast? with | some x => [n - x - 1] | none => [])
  | [], n => rfl
  | [a], n => rfl
  | a :: b :: r, n => by
    have ih := diffs_snoc (b :: r) n
    show (b - a - 1) :: diffs (b :: r ++ [n]) = (b - a - 1) :: (diffs (b :: r) ++ _)
    rw [ih, List.getLast?_cons_cons]
theorem diffs_range : ∀ l : List Int, (List.range (l.length - 1)).map (fun i => l.getD (i + 1) 0 - l.getD i 0 - 1) = diffs l
  | [] => rfl
  | [_] => rfl
  | a :: b :: r => by
    have ih := diffs_range (b :: r)
    show (List.range (r.length + 1)).map _ = (b - a - 1) :: diffs (b :: r)
    rw [← ih, List.range_succ_eq_map, List.map_cons, List.map_map]
    rfl
/-! #### the going over with a dict -/
def lbStep (n : Int) (st : List Int × List (Int × Int)) (s : Int) : List Int × List (Int × Int) := ((match getC st.2 s with | some l => st.1 ++ [n - l - 1] | none => st.1), putC st.2 s n)
def lbRow (st : List Int × List (Int × Int)) (n : Int) (row : List Int) : List Int × List (Int × Int) := row.foldl (lbStep n) st
def lbFrom : Nat → List Int × List (Int × Int) → List (List Int) → List Int × List (Int × Int)
  | _, st, [] => st
  | i, st, r :: R => lbFrom (i + 1) (lbRow st i r) R
def lb (R : List (List Int)) : List Int × List (Int × Int) := lbFrom 0 ([], []) R
def least (R : List (List Int)) : Option Int := minO (lb R).1
theorem lbFrom_snoc : ∀ (R : List (List Int)) (i : Nat) (st : List Int × List (Int × Int)) (r : List Int), lbFrom i st (R ++ [r]) = lbRow (lbFrom i st R) ((i + R.length : Nat) : Int) r
  | [], i, st, r => rfl
  | a :: R, i, st, r => by
    show lbFrom (i + 1) (lbRow st i a) (R ++ [r]) = lbRow (lbFrom (i + 1) (lbRow st i a) R) _ r
    rw [lbFrom_snoc R, show i + 1 + R.length = i + (a :: R).length by rw [List.length_cons]; omega]
theorem lb_snoc (R : List (List Int)) (r : List Int) : lb (R ++ [r]) = lbRow (lb R) (R.length : Int) r := by
  unfold lb
  rw [lbFrom_snoc, Nat.zero_add]
theorem lbRow_spec (n : Int) : ∀ (row : List Int) (st : List Int × List (Int × Int)), row.Nodup →
    (∀ s, getC (lbRow st n row).2 s = if s ∈ row then some n else getC st.2 s) ∧ ∀ x, x ∈ (lbRow st n row).1 ↔ x ∈ st.1 ∨ ∃ s ∈ row, ∃ l, getC st.2 s = some l ∧ x = n - l - 1
  | [], st, _ => ⟨fun s => by simp [lbRow], fun x => by simp [lbRow]⟩
  | a :: row, st, nd => by
    obtain ⟨n1, n2⟩ := List.nodup_cons.mp nd
    obtain ⟨h1, h2⟩ := lbRow_spec n row (lbStep n st a) n2
    have e : lbRow st n (a :: row) = lbRow (lbStep n st a) n row := rfl
    rw [e]
    have g : ∀ s, getC (lbStep n st a).2 s = if s = a then some n else getC st.2 s := fun s => getC_putC _ _ _ _
    refine ⟨fun s => ?_, fun x => ?_⟩
    · rw [h1, g]
      by_cases c : s ∈ row
      · rw [if_pos c, if_pos (by simp [c])]
      · rw [if_neg c]
        by_cases c2 : s = a
        · rw [if_pos c2, if_pos (by simp [c2])]
        · rw [if_neg c2, if_neg (by simp [c, c2])]
    · rw [h2]
      have m : x ∈ (lbStep n st a).1 ↔ x ∈ st.1 ∨ ∃ l, getC st.2 a = some l ∧ x = n - l - 1 := by
        unfold lbStep
        cases c : getC st.2 a with
        | none => simp
        | some l => simp
      rw [m]
      constructor
      · rintro ((h | ⟨l, hl, hx⟩) | ⟨s, hs, l, hl, hx⟩)
        · exact .inl h
        · exact .inr ⟨a, by simp, l, hl, hx⟩
        · rw [g, if_neg (fun z => n1 (by rw [← z]; exact hs))] at hl
          exact .inr ⟨s, by simp [hs], l, hl, hx⟩
      · rintro (h | ⟨s, hs, l, hl, hx⟩)
        · exact .inl (.inl h)
        · rcases List.mem_cons.mp hs with q | q
          · subst q
            exact .inl (.inr ⟨l, hl, hx⟩)
          · refine .inr ⟨s, q, l, ?_, hx⟩
            rw [g, if_neg (fun z => n1 (by rw [← z]; exact q))]
            exact hl
theorem lb_spec (R : List (List Int)) : (∀ r ∈ R, r.Nodup) → (∀ s, getC (lb R).2 s = (spots s R).getLast?) ∧ ∀ x, x ∈ (lb R).1 ↔ ∃ s, x ∈ diffs (spots s R) := by
  refine snoc_ind (P := fun R => (∀ r ∈ R, r.Nodup) → (∀ s, getC (lb R).2 s = (spots s R).getLast?) ∧ ∀ x, x ∈ (lb R).1 ↔ ∃ s, x ∈ diffs (spots s R)) ?_ ?_ R
  · intro _
    exact ⟨fun s => rfl, fun x => ⟨fun h => (nomatch h), fun ⟨s, h⟩ => (nomatch h)⟩⟩
  · intro R r ih nd
    obtain ⟨i1, i2⟩ := ih fun q hq => nd q (by simp [hq])
    obtain ⟨h1, h2⟩ := lbRow_spec (R.length : Int) r (lb R) (nd r (by simp))
    rw [lb_snoc]
    refine ⟨fun s => ?_, fun x => ?_⟩
    · rw [h1, spots_snoc, i1]
      by_cases c : s ∈ r
      · rw [if_pos c, if_pos c, List.getLast?_append]; rfl
      · rw [if_neg c, if_neg c, List.append_nil]
    · rw [h2, i2]
      constructor
      · rintro (⟨s, h⟩ | ⟨s, hs, l, hl, hx⟩)
        · refine ⟨s, ?_⟩
          rw [spots_snoc]
          by_cases c : s ∈ r
          · rw [if_pos c, diffs_snoc]; exact List.mem_append.mpr (.inl h)
          · rw [if_neg c, List.append_nil]; exact h
        · refine ⟨s, ?_⟩
          rw [spots_snoc, if_pos hs, diffs_snoc, ← i1, hl]
          exact List.mem_append.mpr (.inr (by simp [hx]))
      · rintro ⟨s, h⟩
        rw [spots_snoc] at h
        by_cases c : s ∈ r
        · rw [if_pos c, diffs_snoc, ← i1] at h
          rcases List.mem_append.mp h with q | q
          · exact .inl ⟨s, q⟩
          · cases e : getC (lb R).2 s with
            | none => rw [e] at q; cases q
            | some l =>
              rw [e] at q
              exact .inr ⟨s, c, l, e, List.mem_singleton.mp q⟩
        · rw [if_neg c, List.append_nil] at h
          exact .inl ⟨s, h⟩
/-! #### the law's own going over, singer by singer -/
def lawFound (R : List (List Int)) : Nat → List Int
  | 0 => []
  | n + 1 => lawFound R n ++ diffs (spots (n : Int) R)
theorem lawFound_mem (R : List (List Int)) (x : Int) : ∀ n, x ∈ lawFound R n ↔ ∃ s : Nat, s < n ∧ x ∈ diffs (spots (s : Int) R)
  | 0 => ⟨fun h => (nomatch h), fun ⟨s, h, _⟩ => absurd h (by omega)⟩
  | n + 1 => by
    show x ∈ lawFound R n ++ _ ↔ _
    rw [List.mem_append, lawFound_mem R x n]
    constructor
    · rintro (⟨s, h1, h2⟩ | h)
      · exact ⟨s, by omega, h2⟩
      · exact ⟨n, by omega, h⟩
    · rintro ⟨s, h1, h2⟩
      by_cases c : s = n
      · subst c; exact .inr h2
      · exact .inl ⟨s, by omega, h2⟩
/-- rows of singers 0 to 5, each once in a row -/
def RowsOk (R : List (List Int)) : Prop := ∀ r ∈ R, r.Nodup ∧ ∀ s ∈ r, 0 ≤ s ∧ s < 6
theorem getD_mem {R : List (List Int)} {i : Nat} (h : i < R.length) : R.getD i [] ∈ R := by
  rw [List.getD_eq_getElem?_getD, List.getElem?_eq_getElem h]
  exact List.getElem_mem h
theorem spots_out {R : List (List Int)} (h : RowsOk R) {s : Int} (hs : ¬ (0 ≤ s ∧ s < 6)) : spots s R = [] := List.eq_nil_iff_forall_not_mem.mpr fun x hx => by
  obtain ⟨i, hi, hm, _⟩ := spots_mem.mp hx
  exact hs ((h _ (getD_mem hi)).2 s hm)
theorem lawFound_least {R : List (List Int)} (h : RowsOk R) : minO (lawFound R 6) = least R := by
  refine minO_congr fun x => ?_
  rw [lawFound_mem, (lb_spec R fun r hr => (h r hr).1).2]
  constructor
  · rintro ⟨s, _, hx⟩; exact ⟨_, hx⟩
  · rintro ⟨s, hx⟩
    by_cases c : 0 ≤ s ∧ s < 6
    · exact ⟨s.toNat, by omega, by rw [show ((s.toNat : Nat) : Int) = s by omega]; exact hx⟩
    · rw [spots_out h c] at hx; cases hx
/-! #### when there is none -/
theorem spots_len (s : Int) (R : List (List Int)) : (spots s R).length = R.countP fun r => decide (s ∈ r) := by
  refine snoc_ind (P := fun R => (spots s R).length = R.countP fun r => decide (s ∈ r)) rfl (fun l a h => ?_) R
  rw [spots_snoc, List.length_append, h, List.countP_append, List.countP_singleton]
  congr 1
  by_cases c : s ∈ a
  · rw [if_pos c, if_pos (decide_eq_true c)]; rfl
  · rw [if_neg c, if_neg (by simpa using c)]; rfl
theorem diffs_nil : ∀ {l : List Int}, diffs l = [] ↔ l.length ≤ 1
  | [] => by simp [diffs]
  | [_] => by simp [diffs]
  | _ :: _ :: _ => by simp [diffs]
theorem least_none {R : List (List Int)} (nd : ∀ r ∈ R, r.Nodup) : least R = none ↔ ∀ s, R.countP (fun r => decide (s ∈ r)) ≤ 1 := by
  unfold least
  rw [minO_none]
  have h2 := (lb_spec R nd).2
  constructor
  · intro h s
    rw [← spots_len, ← diffs_nil]
    exact List.eq_nil_iff_forall_not_mem.mpr fun x hx => by
      have := (h2 x).mpr ⟨s, hx⟩
      rw [h] at this; cases this
  · intro h
    exact List.eq_nil_iff_forall_not_mem.mpr fun x hx => by
      obtain ⟨s, hs⟩ := (h2 x).mp hx
      have := h s
      rw [← spots_len, ← diffs_nil] at this
      rw [this] at hs; cases hs
theorem least_perm {R R' : List (List Int)} (p : R.Perm R') (nd : ∀ r ∈ R, r.Nodup) : least R = none ↔ least R' = none := by
  rw [least_none nd, least_none fun r hr => nd r (p.symm.subset hr)]
  constructor
  · intro h s; rw [← p.countP_eq]; exact h s
  · intro h s; rw [p.countP_eq]; exact h s
end Song

/-! ### Gp2: all orders, the first of the widest (plain; k08) -/
namespace Song
/-- one turn of all_orders: pairs of an order and what is left -/
def ordStep (f : List (List Int × List Int)) : List (List Int × List Int) := f.flatMap fun p => p.2.map fun one => (p.1 ++ [one], p.2.filter fun other => decide (other ≠ one))
def ordIter : Nat → List (List Int × List Int) → List (List Int × List Int)
  | 0, f => f
  | n + 1, f => ordStep (ordIter n f)
def upto (n : Nat) : List Int := (List.range n).map fun i : Nat => (i : Int)
def allOrders (n : Nat) : List (List Int) := (ordIter n [([], upto n)]).map (·.1)
/-- one turn of the law's orders -/
def lordStep (n : Nat) (f : List (List Int)) : List (List Int) := f.flatMap fun o => ((upto n).filter fun one => decide (one ∉ o)).map fun one => o ++ [one]
def lordIter (n : Nat) : Nat → List (List Int)
  | 0 => [[]]
  | k + 1 => lordStep n (lordIter n k)
def lawOrders (n : Nat) : List (List Int) := lordIter n n
theorem orders_all : ((List.range 6).all fun n => decide (allOrders n = lawOrders n) && ((lawOrders n).all fun o => o.isPerm (upto n)) && decide ((lawOrders n).head? = some (upto n)) && decide ((lawOrders n).length ≤ 120)
    && ((List.range (n + 1)).all fun k => decide ((ordIter k [([], upto n)]).length ≤ 120) && ((ordIter k [([], upto n)]).all fun p => decide (p.1.length = k) && decide (p.2.length ≤ n)) && decide ((lordIter n k).length ≤ 120) && ((lordIter n k).all fun o => decide (o.length = k)))) = true := by decide +kernel
structure OrdOk (n : Nat) : Prop where
  eq : allOrders n = lawOrders n
  perm : ∀ o ∈ lawOrders n, o.Perm (upto n)
  head : (lawOrders n).head? = some (upto n)
  few : (lawOrders n).length ≤ 120
  it : ∀ k ≤ n, (ordIter k [([], upto n)]).length ≤ 120 ∧ (∀ p ∈ ordIter k [([], upto n)], p.1.length = k ∧ p.2.length ≤ n) ∧ (lordIter n k).length ≤ 120 ∧ ∀ o ∈ lordIter n k, o.length = k
theorem ordOk {n : Nat} (h : n ≤ 5) : OrdOk n := by
  have a := List.all_eq_true.mp orders_all n (List.mem_range.mpr (by omega))
  simp only [Bool.and_eq_true, decide_eq_true_eq, List.all_eq_true] at a
  obtain ⟨⟨⟨⟨a1, a2⟩, a3⟩, a4⟩, a5⟩ := a
  refine ⟨a1, fun o ho => List.isPerm_iff.mp (a2 o ho), a3, a4, fun k hk => ?_⟩
  obtain ⟨⟨⟨b1, b2⟩, b3⟩, b4⟩ := a5 k (List.mem_range.mpr (by omega))
  exact ⟨b1, b2, b3, b4⟩
/-! #### the first of the greatest -/
def bestStep {α : Type} (b : Option Int × α) (p : Int × α) : Option Int × α := match b.1 with
  | none => (some p.1, p.2)
  | some g => if p.1 > g then (some p.1, p.2) else b
theorem best_some {α : Type} : ∀ (ps : List (Int × α)) (g : Int) (o : α), ∃ g' o', ps.foldl bestStep (some g, o) = (some g', o') ∧ (∀ p ∈ (g, o) :: ps, p.1 ≤ g') ∧ ((g, o) :: ps).find? (fun p => decide (p.1 = g')) = some (g', o')
  | [], g, o => ⟨g, o, rfl, fun p hp => by rw [List.mem_singleton.mp hp]; exact Int.le_refl _, by simp⟩
  | (h, u) :: r, g, o => by
    by_cases c : h > g
    · obtain ⟨g', o', e1, e2, e3⟩ := best_some r h u
      have hg := e2 (h, u) (by simp)
      simp only at hg
      refine ⟨g', o', ?_, fun p hp => ?_, ?_⟩
      · rw [← e1]
        show r.foldl bestStep (bestStep (some g, o) (h, u)) = _
        congr 1
        show (if h > g then _ else _) = _
        rw [if_pos c]
      · rcases List.mem_cons.mp hp with q | q
        · rw [q]; show g ≤ g'; omega
        · exact e2 p q
      · rw [List.find?_cons_of_neg (by simp; omega)]
        exact e3
    · obtain ⟨g', o', e1, e2, e3⟩ := best_some r g o
      have hg := e2 (g, o) (by simp)
      simp only at hg
      refine ⟨g', o', ?_, fun p hp => ?_, ?_⟩
      · rw [← e1]
        show r.foldl bestStep (bestStep (some g, o) (h, u)) = _
        congr 1
        show (if h > g then _ else _) = _
        rw [if_neg c]
      · rcases List.mem_cons.mp hp with q | q
        · rw [q]; exact hg
        rcases List.mem_cons.mp q with q | q
        · rw [q]; show h ≤ g'; omega
        · exact e2 p (by simp [q])
      · by_cases e : g = g'
        · rw [List.find?_cons_of_pos (by simpa using e)]
          rw [List.find?_cons_of_pos (by simpa using e)] at e3
          exact e3
        · rw [List.find?_cons_of_neg (by simpa using e)] at e3 ⊢
          rw [List.find?_cons_of_neg (by simp; omega)]
          exact e3
theorem best_all {α : Type} {ps : List (Int × α)} {x : α} {g' : Int} {o' : α} (h : ps ≠ []) (e : ps.foldl bestStep (none, x) = (some g', o')) : (∀ p ∈ ps, p.1 ≤ g') ∧ ps.find? (fun p => decide (p.1 = g')) = some (g', o') := by
  cases ps with
  | nil => exact absurd rfl h
  | cons p r =>
    obtain ⟨g, o⟩ := p
    obtain ⟨g2, o2, e1, e2, e3⟩ := best_some r g o
    have e4 : ((g, o) :: r).foldl bestStep (none, x) = r.foldl bestStep (some g, o) := rfl
    rw [e4, e1] at e
    injection e with z1 z2
    injection z1 with z1
    subst z1 z2
    exact ⟨e2, e3⟩
end Song

/-! ### Gw1: rows of singers in the heap; check_groups, least_between -/
namespace Song
open PySem L2
def spotF (s : Int) (R : List (List Int)) (i : Nat) : Option V := if s ∈ R.getD i [] then some (V.int (i : Int)) else none
theorem spotF_all (s : Int) (R : List (List Int)) : (List.range R.length).filterMap (spotF s R) = (spots s R).map V.int := by
  unfold spots
  rw [List.map_filterMap]
  congr 1
  funext i
  unfold spotF
  split <;> rfl
def RowAt (K : PySem.W.Frag) (H : Hp) (v : V) (r : List Int) : Prop := ∃ b, v = .ref b ∧ SqL K H b (r.map V.int)
theorem RowAt.mono {K : PySem.W.Frag} {H H' : Hp} {v : V} {r : List Int} (s : Same H H') (h : RowAt K H v r) : RowAt K H' v r := by
  obtain ⟨b, e, q⟩ := h
  exact ⟨b, e, s.seq q⟩
def Rows (K : PySem.W.Frag) (H : Hp) (vs : List V) (R : List (List Int)) : Prop := vs.length = R.length ∧ ∀ (i : Nat) v, vs[i]? = some v → RowAt K H v (R.getD i [])
theorem Rows.mono {K : PySem.W.Frag} {H H' : Hp} {vs : List V} {R : List (List Int)} (s : Same H H') (h : Rows K H vs R) : Rows K H' vs R := ⟨h.1, fun i v e => (h.2 i v e).mono s⟩
theorem Rows.nil {K : PySem.W.Frag} {H : Hp} : Rows K H [] [] := ⟨rfl, fun i v e => by simp at e⟩
theorem getD_app {R : List (List Int)} {r : List Int} {i : Nat} (h : i < R.length) : (R ++ [r]).getD i [] = R.getD i [] := by
  rw [List.getD_eq_getElem?_getD, List.getD_eq_getElem?_getD, List.getElem?_append_left h]
theorem getD_last {R : List (List Int)} {r : List Int} : (R ++ [r]).getD R.length [] = r := by
  rw [List.getD_eq_getElem?_getD, List.getElem?_append_right (Nat.le_refl _)]; simp
theorem Rows.snoc {K : PySem.W.Frag} {H : Hp} {vs : List V} {R : List (List Int)} {v : V} {r : List Int} (h : Rows K H vs R) (q : RowAt K H v r) : Rows K H (vs ++ [v]) (R ++ [r]) := by
  refine ⟨by rw [List.length_append, List.length_append, h.1]; rfl, fun i u e => ?_⟩
  by_cases c : i < vs.length
  · rw [List.getElem?_append_left c] at e
    rw [getD_app (by rw [← h.1]; exact c)]
    exact h.2 i u e
  · have ei : i = vs.length := by
      have := (List.getElem?_eq_some_iff.mp e).1
      simp at this; omega
    subst ei
    rw [List.getElem?_append_right (Nat.le_refl _)] at e
    simp at e
    subst e
    rw [h.1, getD_last]
    exact q
theorem Rows.at {K : PySem.W.Frag} {H : Hp} {vs : List V} {R : List (List Int)} (h : Rows K H vs R) {o : Int} (h0 : 0 ≤ o) (h1 : o < (R.length : Int)) : ∃ v, atI vs o = some v ∧ RowAt K H v (R.getD o.toNat []) := by
  obtain ⟨j, rfl⟩ := Int.eq_ofNat_of_zero_le h0
  have hj : j < vs.length := by rw [h.1]; omega
  exact ⟨vs[j], atI_nat (List.getElem?_eq_getElem hj), h.2 j _ (List.getElem?_eq_getElem hj)⟩
theorem Rows.all {K : PySem.W.Frag} {H : Hp} {vs : List V} {R : List (List Int)} (h : Rows K H vs R) {v : V} (hv : v ∈ vs) : ∃ r ∈ R, RowAt K H v r := by
  obtain ⟨i, hi, rfl⟩ := List.mem_iff_getElem.mp hv
  exact ⟨_, getD_mem (by rw [← h.1]; exact hi), h.2 i _ (List.getElem?_eq_getElem hi)⟩
/-- the rows in an order -/
def pick (R : List (List Int)) (os : List Int) : List (List Int) := os.map fun o => R.getD o.toNat []
/-- what are songs of one to three singers -/
def GrOk (R : List (List Int)) : Prop := ∀ r ∈ R, areSingers r 6 = true
theorem GrOk.rows {R : List (List Int)} (h : GrOk R) : RowsOk R := fun r hr => by
  obtain ⟨_, _, h3, h4⟩ := areS_len (h r hr)
  exact ⟨(pw_of h4).imp (fun {a b} z => by omega), h3⟩
theorem GrOk.pick {R : List (List Int)} (h : GrOk R) {os : List Int} (hi : InB R.length os) : GrOk (pick R os) := fun r hr => by
  obtain ⟨o, ho, rfl⟩ := List.mem_map.mp hr
  exact h _ (getD_mem (by have := hi o ho; omega))
section
variable {P : Program} {w : World} {K : PySem.W.Frag} {mg : Str → Option Value} {base : Heap}
theorem sc_check_groups : FnScope ["songs", "most", "one"] ["songs", "most"] (defScope s_check_groups) := ⟨rfl, rfl, rfl, by decide +kernel, rfl, by decide +kernel, by decide +kernel⟩
def sp_check_groups (K : PySem.W.Frag) : Sp := fun vs H Q _ => ∃ (a : Addr) (cs : List V) (R : List (List Int)) (most : Int), vs = [.ref a, .int most] ∧ SqL K H a cs ∧ Rows K H cs R ∧ GrOk R ∧ (R.length : Int) ≤ most ∧ R.length ≤ 900 ∧ ∀ H', Same H H' → Q .non H'
theorem all_true (n : Nat) : (List.replicate n true).all id = true := by rw [List.all_eq_true]; intro x hx; rw [(List.mem_replicate.mp hx).2]; rfl
theorem fn_check_groups (T : Tx K mg) : Fn P w K mg base "check_groups" 4 (sp_check_groups K) := by
  obtain ⟨fd, F⟩ := T.d_check_groups
  refine ⟨_, fd, _, F.ok (CX := CX0) sc_check_groups (fun vs H Q E h => ?_) (fun cdv A outer s H vs Q E hr h => ?_), T.g_check_groups, F.kp, F.bindsN fun _ _ _ _ _ _ us hl => match us, hl with | [_, _], _ => rfl⟩
  · obtain ⟨a, cs, R, most, rfl, _⟩ := h; rfl
  · obtain ⟨a, cs, R, most, rfl, hs, hR, hG, hm, hl, q⟩ := h
    refine ⟨_, PSs.nox (pss_cons (ps_if (PW.pt (pw_or (pt_not (pt_val (pe_callB (show CallR _ _ (rIsi K) from call_isi) (by rfl) T.isinstance (by decide +kernel) (pa_cons (pv 0) (pa_cons (pe_gt (n := "list") T.list (by rfl) (by decide +kernel)) pa_nil))))) (pw_or1 (pt_cmpR op_gt (pe_callB (show CallR _ _ (rLenQ K) from call_len_seq) (by rfl) T.len (by decide +kernel) (pa_cons (pv 0) pa_nil)) (pv 1) (nomark _))))) (pss_one ps_never) pss_nil)
      (pss_one (ps_if (pt_not (pt_val (pe_callB (show CallR _ _ (rAll K) from cr_all (by rfl)) (by rfl) T.all (by decide +kernel) (pa_cons (pe_lc (own := [("one", 2)]) (g := (gName 2)) (tt := tYes) (by rfl) sc_check_groups.nd (show PI _ _ _ (iList K _) from pi_list (pv 0)) (blkOk_by (by kernel_rfl)) (fun _ _ _ _ _ => (pg_name (i := 2) sc_check_groups.nd rfl (by first | exact Or.inl rfl | exact Or.inr rfl))) (fun _ _ _ _ _ => pts_nil) (fun _ _ _ _ _ => (pe_fn (fn_are_singers T) (hr.mono (by first | decide | omega)) (by rfl) (pa_cons (pv 2) (pa_cons (pe_gi T.c_MOST_SINGERS (by rfl)) pa_nil))))) pa_nil)))) (pss_one ps_never) pss_nil))), ?_⟩
    have hlc := hR.1
    refine ⟨_, rfl, _, _, _, _, _, rfl, .ty _, kd_list hs, (kit_kd (kd_list hs)).2.2.1, _, rfl, iteF ?_⟩
    refine ⟨_, rfl, a, _, rfl, .inl hs, _, rfl, _, _, rfl, rfl, _, rfl, ?_⟩
    rw [decide_eq_false (by omega)]
    refine iteF ⟨_, rfl, a, rfl, ⟨_, hs⟩, fun D nD => lc_map (fun _ => .bl true) hs nD (by omega) ?_ ?_ gname_mono⟩
    · intro i x H1 hx s1 k hk
      obtain ⟨r, hr, b, rfl, hb⟩ := hR.all (List.mem_of_getElem? hx)
      have hA := hG r hr
      obtain ⟨_, l3, _, _⟩ := areS_len hA
      refine ⟨rfl, _, rfl, b, r, 6, rfl, s1.seq hb, by omega, fun H2 s2 => ?_⟩
      rw [hA]
      exact hk _ s2
    · intro H1 s1 hD
      refine ⟨_, List.replicate cs.length true, rfl, SqL.of (by rw [hD, List.map_const', List.map_replicate]), _, rfl, ?_⟩
      rw [all_true]
      exact iteF (q _ s1)
theorem sc_least_between : FnScope ["songs", "order", "found", "last", "at", "place", "singer"] ["songs", "order"] (defScope s_least_between) := ⟨rfl, rfl, rfl, by decide +kernel, rfl, by decide +kernel, by decide +kernel⟩
def sp_least_between (K : PySem.W.Frag) : Sp := fun vs H Q _ => ∃ (a b : Addr) (cs : List V) (R : List (List Int)) (os : List Int), vs = [.ref a, .ref b] ∧ SqL K H a cs ∧ Rows K H cs R ∧ (∀ r ∈ R, r.length ≤ 3) ∧ SqL K H b (os.map V.int) ∧ InB R.length os ∧ os.length ≤ 100 ∧
  ∀ H', Same H H' → Q (optV (least (pick R os))) H'
theorem lbStep_len (n : Int) (st : List Int × List (Int × Int)) (s : Int) : (lbStep n st s).1.length ≤ st.1.length + 1 ∧ (lbStep n st s).2.length ≤ st.2.length + 1 := by
  refine ⟨?_, putC_len _ _ _⟩
  unfold lbStep
  cases getC st.2 s with
  | none => show st.1.length ≤ _; omega
  | some l => show (st.1 ++ [_]).length ≤ _; rw [List.length_append, List.length_singleton]; omega
theorem fra2_same {H H' : Hp} {a b x : Addr} {o : HO} (f : Fra [a, b] H H') (n1 : x ≠ a) (n2 : x ≠ b) (h : H x = some o) : H' x = some o := f x o (by simp [n1, n2]) h
theorem fn_least_between (T : Tx K mg) : Fn P w K mg base "least_between" 1 (sp_least_between K) := by
  obtain ⟨fd, F⟩ := T.d_least_between
  refine ⟨_, fd, _, F.ok (CX := CX0) sc_least_between (fun vs H Q E h => ?_) (fun cdv A outer s H vs Q E hr h => ?_), T.g_least_between, F.kp, F.bindsN fun _ _ _ _ _ _ us hl => match us, hl with | [_, _], _ => rfl⟩
  · obtain ⟨a, b, cs, R, os, rfl, _⟩ := h; rfl
  · obtain ⟨a, b, cs, R, os, rfl, ha, hR, h3, hb, hi, hl, q⟩ := h
    refine ⟨_, PSs.nox (pss_cons (ps_par (i := 2) (j := 3) (by rfl) sc_least_between.nd rfl rfl (by decide) rfl rfl (pa_cons (pe_lst pa_nil) (pa_cons pe_dnewK pa_nil)) (by rfl))
      (pss_cons (ps_for PassesOwn.never rfl (show PI _ _ _ (iEnum K _) from pi_enum (by rfl) T.enumerate (pa_cons (pv 1) pa_nil)) (show PG _ _ (gTup K _ _) from pg_tup rfl (pgs_cons (pg_name (i := 4) sc_least_between.nd rfl (by first | exact Or.inl rfl | exact Or.inr rfl)) (pgs_cons (pg_name (i := 5) sc_least_between.nd rfl (by first | exact Or.inl rfl | exact Or.inr rfl)) pgs_nil)))
      (pss_one (ps_for PassesOwn.never rfl (show PI _ _ _ (iList K _) from pi_list (pe_ix (show IxR _ (rIxL K) from ix_list) (pv 0) (pv 5) (fun _ _ => rfl))) (pg_name (i := 6) sc_least_between.nd rfl (by first | exact Or.inl rfl | exact Or.inr rfl))
      (pss_cons (ps_if (pt_cmp (pc_din (hu_of hr) (pv 6) (pv 3))) (pss_one (ps_expr (show PE _ _ (tBM K _ _ _ _) from pe_bm PySem.F.plainAttrs_list PySem.F.slot_list_append PySem.F.type_list_append mt_append (pv 2) (pa_cons (pe_op op_sub (pe_op op_sub (pv 4) (pe_dget (hu_of hr) (pv 3) (pv 6) (fun _ _ => rfl))) pe_int) pa_nil)))) pss_nil)
      (pss_one (ps_dput (hu_of hr) (pv 3) (pv 6) (pv 4) rfl))))))
      (pss_one (ps_ret (pe_ifExp (pt_cmpR (show OpR _ _ (rNeD K) from op_neD hr.units) (pv 2) (pe_lst pa_nil) (nomark _)) (pe_callB (show CallR _ _ (rMin K) from cr_min (by rfl)) (by rfl) T.min (by decide +kernel) (pa_cons (pv 2) pa_nil)) pe_non))))), ?_⟩
    refine ⟨Nat.zero_le _, fun l nl => ?_⟩
    refine to_new nl fun H1 s1 hl1 => ?_
    intro d nd
    refine to_new nd fun H2 s2 hd2 => ?_
    have hl2 := s2 _ _ hl1
    have nld : l ≠ d := ne_of_none hl1 nd
    have s02 := s1.trans s2
    have nS : ∀ x ∈ [l, d], H x = none := fun x hx => by
      simp only [List.mem_cons, List.not_mem_nil, or_false] at hx
      rcases hx with e | e <;> rw [e]
      · exact nl
      · exact s1.free nd
    refine ⟨_, _, rfl, ?_⟩
    have rowLen : ∀ o ∈ os, (R.getD o.toNat []).length ≤ 3 := fun o ho => h3 _ (getD_mem (by have := hi o ho; omega))
    refine ⟨_, rfl, b, _, rfl, s02.seq hb, for_it (walk_enum (xs := os.map V.int)) (fun i σ H' => ∃ (st : List Int × List (Int × Int)) (x4 x5 x6 : Option V), σ = [some (.ref a), some (.ref b), some (.ref l), some (.ref d), x4, x5, x6] ∧
      Fra [l, d] H2 H' ∧ H' l = some (.lst (st.1.map V.int)) ∧ H' d = some (.dK (toK st.2)) ∧ st = lb (pick R (os.take i)) ∧ st.1.length ≤ 3 * i ∧ st.2.length ≤ 3 * i) ?_ ?_ ?_ ?_⟩
    · exact ⟨([], []), _, _, _, rfl, Fra.refl _ _, hl2, hd2, rfl, Nat.le_refl _, Nat.le_refl _⟩
    · rintro i σ H' _ ⟨st, x4, x5, x6, rfl, f, _⟩
      exact (f.back s02 nS).seq hb
    · rintro i v σ H3 H4 hi3 ⟨st, x4, x5, x6, rfl, f3, hl3, hd3, est, b1, b2⟩ ⟨t, x, y, rfl, nt, rfl, hx, hy⟩
      cases hx
      obtain ⟨o, rfl, ho⟩ := int_at hy
      rw [List.length_map] at hi3
      have hom := List.mem_of_getElem? ho
      obtain ⟨o0, o1⟩ := hi o hom
      refine ⟨t, _, rfl, SqT.of upd_same, rfl, _, _, rfl, _, _, rfl, rfl, ?_⟩
      refine to_new nt fun H5 s5 ht => ?_
      have s05 : Same H H5 := (f3.back s02 nS).trans s5
      obtain ⟨u, hu, c, rfl, hcH⟩ := hR.at o0 o1
      have hc := s05.seq hcH
      have hrow := rowLen o hom
      generalize hrw : R.getD o.toNat [] = row at *
      refine ⟨_, rfl, _, rfl, a, cs, o, _, rfl, rfl, s05.seq ha, hu, c, rfl, ⟨_, hc⟩, ?_⟩
      have f5 : Fra [l, d] H2 H5 := f3.trans (Fra.of s5)
      refine for_list (K := K) (a := c) (xs := row.map V.int) (fun j σ H' => ∃ (st' : List Int × List (Int × Int)) (x6 : Option V), σ = [some (.ref a), some (.ref b), some (.ref l), some (.ref d), some (.int (i : Nat)), some (.int o), x6] ∧
        Fra [l, d] H5 H' ∧ H' l = some (.lst (st'.1.map V.int)) ∧ H' d = some (.dK (toK st'.2)) ∧ st' = lbRow st (i : Nat) (row.take j) ∧ st'.1.length ≤ 3 * i + j ∧ st'.2.length ≤ 3 * i + j) ?_ ?_ ?_ ?_
      · exact ⟨st, _, rfl, Fra.refl _ _, s5 _ _ hl3, s5 _ _ hd3, rfl, b1, b2⟩
      · rintro j σ G _ ⟨st', y6, rfl, g, _⟩
        exact ((f5.trans g).back s02 nS).seq hcH
      · rintro j v σ G hv ⟨st', y6, rfl, g, gl, gd, est', c1, c2⟩
        obtain ⟨s, rfl, hs⟩ := int_at hv
        have hj : j < row.length := (List.getElem?_eq_some_iff.mp hs).1
        have fin : lbStep (i : Nat) st' s = lbRow st (i : Nat) (row.take (j + 1)) := by
          unfold lbRow
          rw [foldl_take _ _ _ _ _ hs, est']; rfl
        obtain ⟨e1, e2⟩ := lbStep_len (i : Nat) st' s
        have gp : ∀ G', Fra [l, d] G G' → G' l = some (.lst ((lbStep (i : Nat) st' s).1.map V.int)) → G' d = some (.dK (toK (putC st'.2 s (i : Nat)))) → ∃ (st'' : List Int × List (Int × Int)) (x6 : Option V), [some (V.ref a), some (.ref b), some (.ref l), some (.ref d), some (.int (i : Nat)), some (.int o), some (.int s)] = [some (.ref a), some (.ref b), some (.ref l), some (.ref d), some (.int (i : Nat)), some (.int o), x6] ∧
            Fra [l, d] H5 G' ∧ G' l = some (.lst (st''.1.map V.int)) ∧ G' d = some (.dK (toK st''.2)) ∧ st'' = lbRow st (i : Nat) (row.take (j + 1)) ∧ st''.1.length ≤ 3 * i + (j + 1) ∧ st''.2.length ≤ 3 * i + (j + 1) := fun G' f g1 g2 =>
          ⟨lbStep (i : Nat) st' s, _, rfl, g.trans f, g1, g2, fin, by omega, by omega⟩
        have md : ∀ x ∈ [d], x ∈ [l, d] := fun x hx => by simp at hx; simp [hx]
        have ml : ∀ x ∈ [l], x ∈ [l, d] := fun x hx => by simp at hx; simp [hx]
        refine ⟨_, rfl, _, rfl, d, _, rfl, DGet.k (k := Sum.inl s) gd, _, rfl, ?_⟩
        rw [valV_toK]
        cases hg : getC st'.2 s with
        | none =>
          refine iteF ⟨_, rfl, _, rfl, _, rfl, d, _, rfl, DPut.k (k := Sum.inl s) gd (by rw [toK_len]; exact lt_line (by omega)), ?_⟩
          rw [putK_toK]
          refine to_put fun G1 f1 gd1 => ?_
          refine gp G1 (f1.mono md) ?_ gd1
          have e : (lbStep (i : Nat) st' s).1 = st'.1 := by unfold lbStep; rw [hg]
          rw [e]
          exact f1.one nld gl
        | some x =>
          refine iteT ⟨_, rfl, .inl ⟨rfl, _, SqL.of gl⟩, _, rfl, _, rfl, _, rfl, d, _, rfl, getC_get gd hg, _, _, rfl, rfl, _, _, rfl, rfl, l, _, _, rfl, rfl, gl, lt_line (by rw [List.length_map]; omega), ?_⟩
          refine to_put fun G1 f1 gl1 => ?_
          refine ⟨_, rfl, _, rfl, _, rfl, d, _, rfl, DPut.k (k := Sum.inl s) (f1.one nld.symm gd) (by rw [toK_len]; exact lt_line (by omega)), ?_⟩
          rw [putK_toK]
          refine to_put fun G2 f2 gd2 => ?_
          refine gp G2 ((f1.mono ml).trans (f2.mono md)) ?_ gd2
          have e : (lbStep (i : Nat) st' s).1 = st'.1 ++ [(i : Nat) - x - 1] := by unfold lbStep; rw [hg]
          rw [e, snoc_ints]
          exact f2.one nld gl1
      · rintro σ G ⟨st', y6, rfl, g, gl, gd, est', c1, c2⟩
        rw [List.length_map] at est' c1 c2
        rw [List.take_length] at est'
        refine ⟨st', _, _, _, rfl, f5.trans g, gl, gd, ?_, by omega, by omega⟩
        have e : pick R (os.take (i + 1)) = pick R (os.take i) ++ [row] := by
          unfold pick
          obtain ⟨hlt, eo⟩ := List.getElem?_eq_some_iff.mp ho
          rw [List.take_succ_eq_append_getElem hlt, List.map_append, eo, ← hrw]; rfl
        rw [e, lb_snoc, ← est, est']
        congr 1
        unfold pick
        rw [List.length_map, List.length_take]
        omega
    · rintro σ H3 ⟨st, x4, x5, x6, rfl, f3, hl3, hd3, est, b1, b2⟩
      rw [List.length_map, List.take_length] at est
      rw [List.length_map] at b1
      have s03 := f3.back s02 nS
      have qq := q
      unfold least at q
      rw [← est] at q
      refine ⟨_, rfl, Nat.zero_le _, fun z nz => ?_⟩
      refine to_new nz fun H4 s4 hz => ?_
      refine ⟨_, _, dp_ints (SqL.of (s4 _ _ hl3)), .lst (SqL.of hz) .nil, (shp_ints _).ok, shp_nil.ok, _, rfl, ?_⟩
      rw [eqv_nil]
      cases hst : st.1 with
      | nil =>
        rw [hst] at q
        exact iteF (q _ (s03.trans s4))
      | cons n r =>
        rw [hst] at q hl3
        refine iteT ⟨_, rfl, l, _, rfl, SqL.of (s4 _ _ hl3), by simp, fun m hm hmm => ?_⟩
        rw [minO_eq hm hmm] at q
        exact q _ (s03.trans s4)
end
end Song

/-! ### Gw2: least_gap; all_orders; widest_few (k08) -/
namespace Song
open PySem L2
theorem perm_sorted_eq : ∀ {xs ys : List Int}, xs.Perm ys → xs.Pairwise (· ≤ ·) → ys.Pairwise (· ≤ ·) → xs = ys
  | [], ys, p, _, _ => (List.nil_perm.mp p).symm ▸ rfl
  | x :: l, [], p, _, _ => absurd p.length_eq (by simp)
  | x :: l, y :: m, p, h1, h2 => by
    obtain ⟨a1, a2⟩ := List.pairwise_cons.mp h1
    obtain ⟨b1, b2⟩ := List.pairwise_cons.mp h2
    have e : x = y := by
      have hx : x ∈ y :: m := p.subset (by simp)
      have hy : y ∈ x :: l := p.symm.subset (by simp)
      rcases List.mem_cons.mp hx with q | q
      · exact q
      rcases List.mem_cons.mp hy with q' | q'
      · exact q'.symm
      have := b1 x q
      have := a1 y q'
      omega
    subst e
    rw [perm_sorted_eq (List.perm_cons x |>.mp p) a2 b2]
theorem upto_sorted (n : Nat) : (upto n).Pairwise (· ≤ ·) := by
  unfold upto
  rw [List.pairwise_map]
  exact List.pairwise_lt_range.imp fun {a b} h => by omega
theorem rg0 (n : Nat) : rgV 0 (n : Int) = (upto n).map V.int := by
  unfold rgV upto
  rw [List.map_map, show ((n : Int) - 0).toNat = n by omega]
  refine List.map_congr_left fun i _ => ?_
  show V.int (0 + (i : Nat)) = V.int (i : Nat)
  rw [Int.zero_add]
theorem upto_len (n : Nat) : (upto n).length = n := by unfold upto; rw [List.length_map, List.length_range]
theorem upto_in (n : Nat) : InB n (upto n) := fun s hs => by
  obtain ⟨i, hi, rfl⟩ := List.mem_map.mp hs
  rw [List.mem_range] at hi
  omega
theorem perm_in {n : Nat} {os : List Int} (p : os.Perm (upto n)) : InB n os := fun s hs => upto_in n s (p.subset hs)
theorem pick_upto (R : List (List Int)) : pick R (upto R.length) = R := by
  unfold pick upto
  rw [List.map_map]
  refine List.ext_getElem (by rw [List.length_map, List.length_range]) fun i h1 h2 => ?_
  rw [List.getElem_map, List.getElem_range]
  show R.getD i [] = R[i]
  rw [List.getD_eq_getElem?_getD, List.getElem?_eq_getElem h2]; rfl
theorem pick_perm {R : List (List Int)} {os : List Int} (p : os.Perm (upto R.length)) : (pick R os).Perm R := by
  have h := p.map fun o : Int => R.getD o.toNat []
  have e : (upto R.length).map (fun o : Int => R.getD o.toNat []) = R := pick_upto R
  rw [e] at h
  exact h
theorem optV_non (o : Option Int) : decide (optV o = .non) = decide (o = none) := by
  cases o with
  | none => rfl
  | some n => rfl
section
variable {P : Program} {w : World} {K : PySem.W.Frag} {mg : Str → Option Value} {base : Heap}
theorem sc_least_gap : FnScope ["songs", "order"] ["songs", "order"] (defScope s_least_gap) := ⟨rfl, rfl, rfl, by decide +kernel, rfl, by decide +kernel, by decide +kernel⟩
def sp_least_gap (K : PySem.W.Frag) : Sp := fun vs H Q _ => ∃ (a b : Addr) (cs : List V) (R : List (List Int)) (os : List Int), vs = [.ref a, .ref b] ∧ SqL K H a cs ∧ Rows K H cs R ∧ GrOk R ∧ R.length ≤ 24 ∧ SqL K H b (os.map V.int) ∧ os.Perm (upto R.length) ∧
  ∀ H', Same H H' → Q (optV (least (pick R os))) H'
theorem fn_least_gap (T : Tx K mg) : Fn P w K mg base "least_gap" 5 (sp_least_gap K) := by
  obtain ⟨fd, F⟩ := T.d_least_gap
  refine ⟨_, fd, _, F.ok (CX := CX0) sc_least_gap (fun vs H Q E h => ?_) (fun cdv A outer s H vs Q E hr h => ?_), T.g_least_gap, F.kp, F.bindsN fun _ _ _ _ _ _ us hl => match us, hl with | [_, _], _ => rfl⟩
  · obtain ⟨a, b, cs, R, os, rfl, _⟩ := h; rfl
  · obtain ⟨a, b, cs, R, os, rfl, ha, hR, hG, h24, hb, hp, q⟩ := h
    refine ⟨_, PSs.nox (pss_cons (ps_expr (pe_fn (fn_check_groups T) (hr.mono (by first | decide | omega)) (by rfl) (pa_cons (pv 0) (pa_cons (pe_gi T.c_MOST_SONGS (by rfl)) pa_nil))))
      (pss_cons (ps_if (PW.pt (pw_or (pt_not (pt_val (pe_fn (fn_are_numbers T) (hr.mono (by first | decide | omega)) (by rfl) (pa_cons (pv 1) pa_nil)))) (pw_or1 (pt_cmpR (show OpR _ _ (rNeD K) from op_neD hr.units) (pe_callB (show CallR _ _ (rSortedI K) from cr_sortedI) (by rfl) T.sorted (by decide +kernel) (pa_cons (pv 1) pa_nil)) (pe_listRg (by rfl) (by rfl) T.list (prg_1 (by rfl) T.range (pe_callB (show CallR _ _ (rLenQ K) from call_len_seq) (by rfl) T.len (by decide +kernel) (pa_cons (pv 0) pa_nil)))) (nomark _))))) (pss_one ps_never) pss_nil)
      (pss_one (ps_ret (pe_fn (fn_least_between T) (hr.mono (by first | decide | omega)) (by rfl) (pa_cons (pv 0) (pa_cons (pv 1) pa_nil))))))), ?_⟩
    have hol : os.length = R.length := by rw [hp.length_eq, upto_len]
    have allI : (os.map V.int).all isInt = true := by
      rw [List.all_map, List.all_eq_true]; intro x _; rfl
    refine ⟨_, rfl, a, cs, R, _, rfl, ha, hR, hG, by omega, by omega, fun H1 s1 => ?_⟩
    refine ⟨_, rfl, _, rfl, .inl ⟨b, _, rfl, s1.seq hb, by rw [List.length_map]; omega, fun x hx => ?_, fun H2 s2 => ?_⟩⟩
    · obtain ⟨i, _, rfl⟩ := List.mem_map.mp hx
      exact ⟨_, kd_int i⟩
    rw [allI]
    have s02 := s1.trans s2
    refine ⟨_, rfl, iteF ⟨_, rfl, b, os, rfl, s02.seq hb, fun ns p pe pw np => ?_⟩⟩
    refine to_new np fun H3 s3 hp3 => ?_
    have e : ns = upto R.length := perm_sorted_eq (pe.trans hp) pw (upto_sorted _)
    refine ⟨_, rfl, a, _, rfl, .inl ((s02.trans s3).seq ha), _, rfl, ⟨by decide, by decide, by omega, by have := hR.1; omega, by have := hR.1; omega⟩, fun r nr => ?_⟩
    rw [rg0, hR.1]
    refine to_new nr fun H4 s4 hr4 => ?_
    subst e
    refine ⟨_, _, dp_ints (SqL.of (s4 _ _ hp3)), dp_ints (SqL.of hr4), (shp_ints _).ok, (shp_ints _).ok, _, rfl, ?_⟩
    rw [eqv_ints]
    refine iteF ?_
    have s04 := (s02.trans s3).trans s4
    exact ⟨_, rfl, _, rfl, a, b, cs, R, os, rfl, s04.seq ha, hR.mono s04, fun r hr => (areS_len (hG r hr)).2.1, s04.seq hb, perm_in hp, by omega, fun H5 s5 => q _ (s04.trans s5)⟩
theorem sc_all_orders : FnScope ["many", "found", "turn", "longer", "order", "left", "other", "one"] ["many"] (defScope s_all_orders) := ⟨rfl, rfl, rfl, by decide +kernel, rfl, by decide +kernel, by decide +kernel⟩
/-- pairs of an order and what is left, in the heap; new to H0 -/
def OrdAt (H0 H : Hp) (v : V) (p : List Int × List Int) : Prop := ∃ t b c, v = .ref t ∧ H t = some (.tup [.ref b, .ref c]) ∧ H b = some (.lst (p.1.map V.int)) ∧ H c = some (.lst (p.2.map V.int)) ∧ H0 t = none ∧ H0 b = none ∧ H0 c = none
theorem OrdAt.mono {H0 H H' : Hp} {v : V} {p : List Int × List Int} (s : Same H H') (h : OrdAt H0 H v p) : OrdAt H0 H' v p := by
  obtain ⟨t, b, c, e, h1, h2, h3, h4⟩ := h
  exact ⟨t, b, c, e, s _ _ h1, s _ _ h2, s _ _ h3, h4⟩
theorem OrdAt.into {H0 Hb Hc : Hp} {v : V} {p : List Int × List Int} {D g : Addr} {o : HO} (h : OrdAt Hb (off [D] Hc) v p) (hg : Hb g = some o) (s : Same H0 Hb) : OrdAt H0 (off [g] Hc) v p := by
  obtain ⟨t, b, c, e, h1, h2, h3, n1, n2, n3⟩ := h
  have f : ∀ {x : Addr} {y : HO}, off [D] Hc x = some y → Hb x = none → off [g] Hc x = some y := fun {x y} h n => by
    rw [off_out (fun z => by rw [List.mem_singleton.mp z, hg] at n; cases n)]
    exact (off_some h).2
  exact ⟨t, b, c, e, f h1 n1, f h2 n2, f h3 n3, s.free n1, s.free n2, s.free n3⟩
def Ords (H0 H : Hp) (vs : List V) (ps : List (List Int × List Int)) : Prop := vs.length = ps.length ∧ ∀ (i : Nat) v, vs[i]? = some v → ∃ p, ps[i]? = some p ∧ OrdAt H0 H v p
theorem Ords.mono {H0 H H' : Hp} {vs : List V} {ps : List (List Int × List Int)} (s : Same H H') (h : Ords H0 H vs ps) : Ords H0 H' vs ps := ⟨h.1, fun i v e => by
  obtain ⟨p, h1, h2⟩ := h.2 i v e
  exact ⟨p, h1, h2.mono s⟩⟩
theorem Ords.app {H0 H : Hp} {vs ws : List V} {ps qs : List (List Int × List Int)} (h : Ords H0 H vs ps) (g : Ords H0 H ws qs) : Ords H0 H (vs ++ ws) (ps ++ qs) := by
  refine ⟨by rw [List.length_append, List.length_append, h.1, g.1], fun i v e => ?_⟩
  by_cases c : i < vs.length
  · rw [List.getElem?_append_left c] at e
    rw [List.getElem?_append_left (by rw [← h.1]; exact c)]
    exact h.2 i v e
  · rw [List.getElem?_append_right (by omega)] at e
    rw [List.getElem?_append_right (by rw [← h.1]; omega), ← h.1]
    exact g.2 _ v e
def ordOne (p : List Int × List Int) : List (List Int × List Int) := p.2.map fun one => (p.1 ++ [one], p.2.filter fun other => decide (other ≠ one))
theorem ordStep_take {F : List (List Int × List Int)} {j : Nat} {p : List Int × List Int} (h : F[j]? = some p) : ordStep (F.take (j + 1)) = ordStep (F.take j) ++ ordOne p := by
  obtain ⟨hj, e⟩ := List.getElem?_eq_some_iff.mp h
  unfold ordStep
  rw [List.take_succ_eq_append_getElem hj, List.flatMap_append, e]
  simp [ordOne]
def neqF (ls : List Int) (one : Int) (i : Nat) : Option V := (ls[i]?).bind fun o => if decide (o ≠ one) = true then some (V.int o) else none
theorem neqF_all (ls : List Int) (one : Int) : (List.range ls.length).filterMap (neqF ls one) = (ls.filter fun other => decide (other ≠ one)).map V.int := by
  have e : (List.range ls.length).filterMap (neqF ls one) = ls.filterMap fun o => if decide (o ≠ one) = true then some (V.int o) else none := range_filterMap _ ls
  rw [e, ← List.filterMap_eq_map, List.filterMap_filter]
  rfl
def sp_all_orders : Sp := fun vs H Q _ => ∃ n : Nat, vs = [.int n] ∧ n ≤ 5 ∧
  ∀ l H' ys, H l = none → Same H H' → H' l = some (.lst ys) → ys.length = (allOrders n).length → (∀ (i : Nat) y, ys[i]? = some y → ∃ b o, y = .ref b ∧ (allOrders n)[i]? = some o ∧ H b = none ∧ b ≠ l ∧ H' b = some (.lst (o.map V.int))) → Q (.ref l) H'
theorem fn_all_orders (T : Tx K mg) : Fn P w K mg base "all_orders" 1 sp_all_orders := by
  obtain ⟨fd, F⟩ := T.d_all_orders
  refine ⟨_, fd, _, F.ok (CX := CX0) sc_all_orders (fun vs H Q E h => ?_) (fun cdv A outer s H vs Q E hr h => ?_), T.g_all_orders, F.kp, F.bindsN fun _ _ _ _ _ _ us hl => match us, hl with | [_], _ => rfl⟩
  · obtain ⟨n, rfl, _⟩ := h; rfl
  · obtain ⟨n, rfl, n5, q⟩ := h
    refine ⟨_, PSs.nox (pss_cons (ps_set (i := 1) sc_all_orders.nd rfl (by first | exact Or.inl rfl | exact Or.inr rfl) (pe_lst (pa_cons (pe_tup (pa_cons (pe_lst pa_nil) (pa_cons (pe_listRg (by rfl) (by rfl) T.list (prg_1 (by rfl) T.range (pv 0))) pa_nil))) pa_nil)))
      (pss_cons (ps_for PassesOwn.never rfl (pi_range1 (by rfl) T.range (pa_cons (pv 0) pa_nil)) (pg_name (i := 2) sc_all_orders.nd rfl (by first | exact Or.inl rfl | exact Or.inr rfl))
      (pss_cons (ps_set (i := 3) sc_all_orders.nd rfl (by first | exact Or.inl rfl | exact Or.inr rfl) (pe_lst pa_nil))
      (pss_cons (ps_for PassesOwn.never rfl (show PI _ _ _ (iList K _) from pi_list (pv 1)) (show PG _ _ (gTup K _ _) from pg_tup rfl (pgs_cons (pg_name (i := 4) sc_all_orders.nd rfl (by first | exact Or.inl rfl | exact Or.inr rfl)) (pgs_cons (pg_name (i := 5) sc_all_orders.nd rfl (by first | exact Or.inl rfl | exact Or.inr rfl)) pgs_nil)))
      (pss_one (ps_expr (show PE _ _ (tBM K _ _ _ _) from pe_bm PySem.F.plainAttrs_list PySem.F.slot_list_extend PySem.F.type_list_extend mt_extend (pv 3) (pa_cons (pe_lc (own := [("one", 7)]) (g := (gName 7)) (tt := tYes) (by rfl) sc_all_orders.nd (show PI _ _ _ (iList K _) from pi_list (pv 5)) (blkOk_by (by kernel_rfl)) (fun _ _ _ _ _ => (pg_name (i := 7) sc_all_orders.nd rfl (by first | exact Or.inl rfl | exact Or.inr rfl))) (fun _ _ _ _ _ => pts_nil) (fun _ _ _ _ _ => (pe_tup (pa_cons (pe_op op_cat (pv 4) (pe_lst (pa_cons (pv 7) pa_nil))) (pa_cons (pe_lc (own := [("other", 6)]) (g := (gName 6)) (tt := _) (by rfl) sc_all_orders.nd (show PI _ _ _ (iList K _) from pi_list (pv 5)) (blkOk_by (by kernel_rfl)) (fun _ _ _ _ _ => (pg_name (i := 6) sc_all_orders.nd rfl (by first | exact Or.inl rfl | exact Or.inr rfl))) (fun _ _ _ _ _ => pts_one (pt_cmpR op_ne (pv 6) (pv 7) (nomark _))) (fun _ _ _ _ _ => (pv 6))) pa_nil))))) pa_nil)))))
      (pss_one (ps_set (i := 1) sc_all_orders.nd rfl (by first | exact Or.inl rfl | exact Or.inr rfl) (pv 3))))))
      (pss_one (ps_ret (pe_lc (own := [("order", 4), ("left", 5)]) (g := (gTup K 2 (gCons (gName 4) (gCons (gName 5) gNil)))) (tt := tYes) (by rfl) sc_all_orders.nd (show PI _ _ _ (iList K _) from pi_list (pv 1)) (blkOk_by (by kernel_rfl)) (fun _ _ _ _ _ => (show PG _ _ (gTup K _ _) from pg_tup rfl (pgs_cons (pg_name (i := 4) sc_all_orders.nd rfl (by first | exact Or.inl rfl | exact Or.inr rfl)) (pgs_cons (pg_name (i := 5) sc_all_orders.nd rfl (by first | exact Or.inl rfl | exact Or.inr rfl)) pgs_nil)))) (fun _ _ _ _ _ => pts_nil) (fun _ _ _ _ _ => (pv 4))))))), ?_⟩
    have ok := ordOk n5
    refine ⟨Nat.zero_le _, fun a na => ?_⟩
    refine to_new na fun H1 s1 ha => ?_
    refine ⟨_, rfl, _, rfl, ⟨by decide, by decide, by omega, by omega, by omega⟩, fun b nb => ?_⟩
    rw [rg0]
    refine to_new nb fun H2 s2 hb => ?_
    refine ⟨by show 2 ≤ sizeLine; decide, fun c nc => ?_⟩
    refine to_new nc fun H3 s3 hc => ?_
    refine ⟨by show 1 ≤ sizeLine; decide, fun f nf => ?_⟩
    refine to_new nf fun H4 s4 hf => ?_
    have s14 : Same H1 H4 := (s2.trans s3).trans s4
    have s24 : Same H2 H4 := s3.trans s4
    refine ⟨_, rfl, _, rfl, by omega, by omega, for_range (lo := 0) (fun i σ H' => ∃ (f : Addr) (ys : List V) (x2 x3 x4 x5 x6 x7 : Option V), σ = [some (.int n), some (.ref f), x2, x3, x4, x5, x6, x7] ∧
      Same H H' ∧ H f = none ∧ H' f = some (.lst ys) ∧ Ords H (off [f] H') ys (ordIter i [([], upto n)])) ?_ ?_ ?_⟩
    · refine ⟨f, _, _, _, _, _, _, _, rfl, s1.trans s14, s1.free (s2.free (s3.free nf)), hf, rfl, fun i v e => ?_⟩
      cases i with
      | succ i => simp at e
      | zero =>
        simp at e
        subst e
        refine ⟨_, rfl, c, a, b, rfl, ?_, ?_, ?_, s1.free (s2.free nc), na, s1.free nb⟩
        · rw [off_out (by simp; exact (ne_of_none hc nf))]; exact s4 _ _ hc
        · rw [off_out (by simp; exact (ne_of_none (s3 _ _ (s2 _ _ ha)) nf))]; exact s14 _ _ ha
        · rw [off_out (by simp; exact (ne_of_none (s3 _ _ hb) nf))]; exact s24 _ _ hb
    · rintro i σ H5 hi ⟨f, ys, x2, x3, x4, x5, x6, x7, rfl, s5, nf, hf5, ho⟩
      have hin : i < n := by omega
      obtain ⟨len1, ps1, _⟩ := ok.it i (by omega)
      generalize hF : ordIter i [([], upto n)] = F at *
      refine ⟨Nat.zero_le _, fun g ng => ?_⟩
      refine to_new ng fun H6 s6 hg => ?_
      have nfg : f ≠ g := ne_of_none hf5 ng
      refine ⟨_, rfl, f, rfl, ⟨_, SqL.of (s6 _ _ hf5)⟩, for_list (K := K) (a := f) (xs := ys) (fun j σ H' => ∃ (zs : List V) (x4 x5 x6 x7 : Option V), σ = [some (.int n), some (.ref f), some (.int (0 + (i : Int))), some (.ref g), x4, x5, x6, x7] ∧
        Fra [g] H6 H' ∧ H' g = some (.lst zs) ∧ zs.length ≤ 5 * j ∧ Ords H (off [g] H') zs (ordStep (F.take j))) ?_ ?_ ?_ ?_⟩
      · exact ⟨[], _, _, _, _, rfl, Fra.refl _ _, hg, Nat.le_refl _, rfl, fun i v e => by simp at e⟩
      · rintro j σ G _ ⟨zs, _, _, _, _, _, f6, _⟩
        exact SqL.of (f6.one nfg (s6 _ _ hf5))
      · rintro j v σ G hv ⟨zs, y4, y5, y6, y7, rfl, f6, hgG, zl, hz⟩
        obtain ⟨p, hp, t, b, c, rfl, ht, hb, hc, _⟩ := ho.2 j v hv
        have hj : j < F.length := (List.getElem?_eq_some_iff.mp hp).1
        obtain ⟨pl1, pl2⟩ := ps1 p (List.mem_of_getElem? hp)
        have mG : ∀ {x : Addr} {o : HO}, off [f] H5 x = some o → G x = some o := fun {x o} e => by
          have e2 := (off_some e).2
          exact f6.one (ne_of_none e2 ng) (s6 _ _ e2)
        have htG := mG ht
        have hbG := mG hb
        have hcG := mG hc
        have sHG : Same H G := f6.back (s5.trans s6) (fun a ha => by rw [List.mem_singleton.mp ha]; exact s5.free ng)
        refine ⟨t, _, rfl, SqT.of htG, rfl, _, _, rfl, _, _, rfl, rfl, ?_⟩
        refine ⟨_, rfl, .inl ⟨rfl, _, SqL.of hgG⟩, ?_⟩
        refine ⟨_, rfl, c, rfl, ⟨_, SqL.of hcG⟩, fun D nD => lc_all walk_list sqL_mono (SqL.of hcG) (fun i H y => ∃ one, p.2[i]? = some one ∧ OrdAt G H y (p.1 ++ [one], p.2.filter fun other => decide (other ≠ one))) ?_ nD (by rw [List.length_map]; omega) ?_ ?_ gname_mono⟩
        · rintro i H1 H2 y s1 ⟨one, h1, h2⟩
          exact ⟨one, h1, h2.mono s1⟩
        · rintro k x G1 G2 acc hk g1 hD ⟨rfl, hx⟩ kk hkk
          obtain ⟨one, rfl, hone⟩ := int_at hx
          refine ⟨rfl, _, rfl, _, rfl, by show 1 ≤ sizeLine; decide, fun z nz => ?_⟩
          refine to_new nz fun G3 g3 hz3 => ?_
          refine ⟨b, z, _, _, rfl, rfl, g3 _ _ (g1 _ _ hbG), hz3, by rw [List.length_map]; show p.1.length + 1 ≤ sizeLine; have := lt_line (n := p.1.length + 1) (by omega); omega, fun u nu => ?_⟩
          refine to_new nu fun G4 g4 hu4 => ?_
          have g14 := g1.trans (g3.trans g4)
          refine ⟨_, rfl, c, rfl, ⟨_, SqL.of (g14 _ _ hcG)⟩, fun D2 nD2 => lc_pure walk_list sqL_mono (SqL.of (g14 _ _ hcG)) (neqF p.2 one) nD2 (by rw [List.length_map]; omega) ?_ ?_⟩
          · rintro m x2 G5 G6 hm g5 ⟨rfl, hx2⟩ k2 kn2 hk2 hkn2
            obtain ⟨other, rfl, hoth⟩ := int_at hx2
            refine ⟨rfl, _, rfl, _, rfl, rfl, _, rfl, ?_⟩
            by_cases e : other = one
            · rw [decide_eq_true (by rw [e])]
              refine iteF (hkn2 _ ?_ (Same.refl _))
              unfold neqF
              rw [hoth]
              simp [e]
            · rw [decide_eq_false (by intro z; injection z; exact e (by assumption))]
              refine iteT ⟨_, rfl, hk2 _ _ ?_ (Same.refl _)⟩
              unfold neqF
              rw [hoth]
              simp [e]
          · intro G5 g5 hD2
            rw [List.length_map, neqF_all] at hD2
            refine ⟨by show 2 ≤ sizeLine; decide, fun t2 nt2 => ?_⟩
            have nDz : ∀ {x : Addr} {X : Hp}, Same G2 X → X x = none → x ∉ [D] := fun {x X} s n z => by
              rw [List.mem_singleton.mp z, s _ _ hD] at n; cases n
            refine hkk _ _ ((g3.trans g4).trans (g5.trans (Same.new nt2))) ⟨one, hone, t2, u, D2, rfl, ?_, ?_, ?_, ?_, ?_, ?_⟩
            · rw [off_out (nDz ((g3.trans g4).trans g5) nt2)]; exact upd_same
            · rw [off_out (nDz g3 nu)]
              refine (Same.new nt2) _ _ (g5 _ _ ?_)
              rw [hu4, snoc_ints]
            · rw [off_out (nDz (g3.trans g4) nD2)]
              exact (Same.new nt2) _ _ hD2
            · exact (g14.trans g5).free nt2
            · exact (g1.trans g3).free nu
            · exact g14.free nD2
        · intro ys' G1 g1 hD hl' hr
          rw [List.length_map] at hl'
          refine ⟨g, D, _, _, rfl, rfl, g1 _ _ hgG, hD, ?_, ?_⟩
          · have := lt_line (n := zs.length + ys'.length) (by omega); omega
          refine to_put fun G2 f2 hg2 => ?_
          refine ⟨_, _, _, _, _, rfl, f6.trans ((Fra.of g1).trans f2), hg2, by rw [List.length_append]; omega, ?_⟩
          rw [ordStep_take hp]
          refine ((hz.mono (off_mono g1)).app ?_).mono (Fra.off f2)
          refine ⟨by rw [hl']; unfold ordOne; rw [List.length_map], fun m y hy => ?_⟩
          obtain ⟨one, h1, h2⟩ := hr m y hy
          refine ⟨_, ?_, h2.into hgG sHG⟩
          unfold ordOne
          rw [List.getElem?_map, h1]; rfl
      · rintro σ G ⟨zs, y4, y5, y6, y7, rfl, f6, hgG, zl, hz⟩
        have e : F.take ys.length = F := List.take_of_length_le (by rw [ho.1]; exact Nat.le_refl _)
        rw [e] at hz
        refine ⟨_, rfl, g, zs, _, _, _, _, _, _, rfl, f6.back (s5.trans s6) (fun a ha => by rw [List.mem_singleton.mp ha]; exact s5.free ng), s5.free ng, hgG, ?_⟩
        show Ords H _ zs (ordStep (ordIter i _))
        rw [hF]
        exact hz
    · rintro σ H5 ⟨f, ys, x2, x3, x4, x5, x6, x7, rfl, s5, nf, hf5, ho⟩
      rw [show ((n : Int)).toNat = n by omega] at ho
      obtain ⟨len1, _⟩ := ok.it n (Nat.le_refl _)
      refine ⟨_, rfl, f, rfl, ⟨_, SqL.of hf5⟩, fun D nD => lc_all walk_list sqL_mono (SqL.of hf5) (fun i H' y => ∃ b o, y = .ref b ∧ (allOrders n)[i]? = some o ∧ H b = none ∧ H' b = some (.lst (o.map V.int))) ?_ nD (by rw [ho.1]; omega) ?_ ?_ gtup_mono⟩
      · rintro i H1 H2 y s1 ⟨b, o, h1, h2, h3, h4⟩
        exact ⟨b, o, h1, h2, h3, s1 _ _ h4⟩
      · rintro k x G1 G2 acc hk g1 hD ⟨rfl, hx⟩ kk hkk
        obtain ⟨p, hp, t, b, c, rfl, ht, hb, hc, n1, n2, n3⟩ := ho.2 k x hx
        have htG := g1 _ _ (off_some ht).2
        have hbG := g1 _ _ (off_some hb).2
        refine ⟨t, _, rfl, SqT.of htG, rfl, _, _, rfl, _, _, rfl, rfl, rfl, _, rfl, hkk _ _ (Same.refl _) ⟨b, p.1, rfl, ?_, n2, ?_⟩⟩
        · unfold allOrders
          rw [List.getElem?_map, hp]; rfl
        · have n : b ≠ D := ne_of_none (off_some hb).2 nD
          rw [off_out (by simp; exact n)]
          exact hbG
      · intro ys' G1 g1 hD hl' hr
        refine q D G1 ys' (s5.free nD) (s5.trans g1) hD (by rw [hl', ho.1]; unfold allOrders; rw [List.length_map]) fun i y e => ?_
        obtain ⟨b, o, h1, h2, h3, h4⟩ := hr i y e
        obtain ⟨h5, h6⟩ := off_some h4
        exact ⟨b, o, h1, h2, h3, by simpa using h5, h6⟩
theorem sc_widest_few : FnScope ["songs", "best", "order", "gap"] ["songs"] (defScope s_widest_few) := ⟨rfl, rfl, rfl, by decide +kernel, rfl, by decide +kernel, by decide +kernel⟩
/-- the widest gap and the first order for it -/
def widestFew (R : List (List Int)) : Option Int × List Int := if least R = none then (none, upto R.length) else ((allOrders R.length).map fun o => ((least (pick R o)).getD 0, o)).foldl bestStep (none, upto R.length)
def sp_widest_few (K : PySem.W.Frag) : Sp := fun vs H Q _ => ∃ (a : Addr) (cs : List V) (R : List (List Int)), vs = [.ref a] ∧ SqL K H a cs ∧ Rows K H cs R ∧ GrOk R ∧ R.length ≤ 5 ∧
  ∀ t b H', H t = none → H b = none → Same H H' → H' t = some (.tup [optV (widestFew R).1, .ref b]) → H' b = some (.lst ((widestFew R).2.map V.int)) → Q (.ref t) H'
theorem fn_widest_few (T : Tx K mg) : Fn P w K mg base "widest_few" 5 (sp_widest_few K) := by
  obtain ⟨fd, F⟩ := T.d_widest_few
  refine ⟨_, fd, _, F.ok (CX := CX0) sc_widest_few (fun vs H Q E h => ?_) (fun cdv A outer s H vs Q E hr h => ?_), T.g_widest_few, F.kp, F.bindsN fun _ _ _ _ _ _ us hl => match us, hl with | [_], _ => rfl⟩
  · obtain ⟨a, cs, R, rfl, _⟩ := h; rfl
  · obtain ⟨a, cs, R, rfl, hs, hR, hG, h5, q⟩ := h
    refine ⟨_, PSs.nox (pss_cons (ps_expr (pe_fn (fn_check_groups T) (hr.mono (by first | decide | omega)) (by rfl) (pa_cons (pv 0) (pa_cons (pe_gi T.c_FEW (by rfl)) pa_nil))))
      (pss_cons (ps_set (i := 1) sc_widest_few.nd rfl (by first | exact Or.inl rfl | exact Or.inr rfl) (pe_tup (pa_cons pe_non (pa_cons (pe_listRg (by rfl) (by rfl) T.list (prg_1 (by rfl) T.range (pe_callB (show CallR _ _ (rLenQ K) from call_len_seq) (by rfl) T.len (by decide +kernel) (pa_cons (pv 0) pa_nil)))) pa_nil))))
      (pss_cons (ps_if (pt_cmpR op_isN (pe_fn (fn_least_between T) (hr.mono (by first | decide | omega)) (by rfl) (pa_cons (pv 0) (pa_cons (pe_ix (show IxR _ (rIxT K) from ix_tup) (pv 1) pe_int (fun _ _ => rfl)) pa_nil))) pe_non (nomark _)) (pss_one (ps_ret (pv 1))) pss_nil)
      (pss_cons (ps_for PassesOwn.never rfl (show PI _ _ _ (iList K _) from pi_list (pe_fn (fn_all_orders T) (hr.mono (by first | decide | omega)) (by rfl) (pa_cons (pe_callB (show CallR _ _ (rLenQ K) from call_len_seq) (by rfl) T.len (by decide +kernel) (pa_cons (pv 0) pa_nil)) pa_nil))) (pg_name (i := 2) sc_widest_few.nd rfl (by first | exact Or.inl rfl | exact Or.inr rfl))
      (pss_cons (ps_set (i := 3) sc_widest_few.nd rfl (by first | exact Or.inl rfl | exact Or.inr rfl) (pe_fn (fn_least_between T) (hr.mono (by first | decide | omega)) (by rfl) (pa_cons (pv 0) (pa_cons (pv 2) pa_nil))))
      (pss_one (ps_if (PW.pt (pw_or (pt_cmpR op_isN (pe_ix (show IxR _ (rIxT K) from ix_tup) (pv 1) pe_int (fun _ _ => rfl)) pe_non (nomark _)) (pw_or1 (pt_cmpR op_gt (pv 3) (pe_ix (show IxR _ (rIxT K) from ix_tup) (pv 1) pe_int (fun _ _ => rfl)) (nomark _))))) (pss_one (ps_set (i := 1) sc_widest_few.nd rfl (by first | exact Or.inl rfl | exact Or.inr rfl) (pe_tup (pa_cons (pv 3) (pa_cons (pv 2) pa_nil))))) pss_nil))))
      (pss_one (ps_ret (pv 1))))))), ?_⟩
    have hlc := hR.1
    have h3 : ∀ r ∈ R, r.length ≤ 3 := fun r hr => (areS_len (hG r hr)).2.1
    refine ⟨_, rfl, a, cs, R, 5, rfl, hs, hR, hG, by omega, by omega, fun H1 s1 => ?_⟩
    refine ⟨_, rfl, a, _, rfl, .inl (s1.seq hs), _, rfl, ⟨by decide, by decide, by omega, by omega, by omega⟩, fun b nb => ?_⟩
    rw [rg0, hlc]
    refine to_new nb fun H2 s2 hb => ?_
    refine ⟨by show 2 ≤ sizeLine; decide, fun t nt => ?_⟩
    refine to_new nt fun H3 s3 ht => ?_
    have s13 := s1.trans (s2.trans s3)
    refine ⟨_, rfl, _, rfl, t, _, _, _, rfl, rfl, SqT.of ht, atI_nat (j := 1) rfl, a, b, cs, R, upto R.length, rfl, s13.seq hs, hR.mono s13, h3, SqL.of (s3 _ _ hb), upto_in _, by rw [upto_len]; omega, fun H4 s4 => ⟨rfl, _, rfl, ?_⟩⟩
    rw [pick_upto, optV_non]
    have s14 := s13.trans s4
    by_cases hN : least R = none
    · rw [decide_eq_true hN]
      have e : widestFew R = (none, upto R.length) := by unfold widestFew; rw [if_pos hN]
      rw [e] at q
      exact iteT ⟨_, rfl, q t b H4 (s1.free (s2.free nt)) (s1.free nb) s14 (s4 _ _ ht) (s4 _ _ (s3 _ _ hb))⟩
    rw [decide_eq_false hN]
    have ew : widestFew R = ((allOrders R.length).map fun o => ((least (pick R o)).getD 0, o)).foldl bestStep (none, upto R.length) := by unfold widestFew; rw [if_neg hN]
    have ok := ordOk h5
    refine iteF ⟨_, rfl, a, _, rfl, .inl (s14.seq hs), R.length, by show [V.int (cs.length : Nat)] = _; rw [hlc], h5, fun l H5 ys nl s5 hl5 hyl hys => ?_⟩
    have s15 := s14.trans s5
    refine ⟨l, rfl, ⟨_, SqL.of hl5⟩, for_list (K := K) (a := l) (xs := ys) (fun i σ H' => ∃ (t b : Addr) (x2 x3 : Option V) (bst : Option Int × List Int), σ = [some (.ref a), some (.ref t), x2, x3] ∧ Same H5 H' ∧
      bst = (((allOrders R.length).take i).map fun o => ((least (pick R o)).getD 0, o)).foldl bestStep (none, upto R.length) ∧ H' t = some (.tup [optV bst.1, .ref b]) ∧ H' b = some (.lst (bst.2.map V.int)) ∧ H t = none ∧ H b = none) ?_ ?_ ?_ ?_⟩
    · exact ⟨t, b, _, _, _, rfl, Same.refl _, rfl, s5 _ _ (s4 _ _ ht), s5 _ _ (s4 _ _ (s3 _ _ hb)), s1.free (s2.free nt), s1.free nb⟩
    · rintro i σ G _ ⟨_, _, _, _, _, _, g, _⟩
      exact SqL.of (g _ _ hl5)
    · rintro i v σ G hv ⟨t, b, x2, x3, bst, rfl, g, eb, ht, hb, nt, nb⟩
      obtain ⟨b2, o, rfl, ho, nb2, nbl, hb2⟩ := hys i v hv
      have hom : o ∈ lawOrders R.length := by rw [← ok.eq]; exact List.mem_of_getElem? ho
      have pm := ok.perm o hom
      have nn : least (pick R o) ≠ none := fun z => hN ((least_perm (pick_perm pm) (fun r hr => ((hG.pick (perm_in pm)).rows r hr).1)).mp z)
      obtain ⟨gp, hgp⟩ := Option.ne_none_iff_exists'.mp nn
      have sg := s15.trans g
      refine ⟨_, rfl, _, rfl, a, b2, cs, R, o, rfl, sg.seq hs, hR.mono sg, h3, SqL.of (g _ _ hb2), perm_in pm, by rw [pm.length_eq, upto_len]; omega, fun G1 g1 => ?_⟩
      rw [hgp]
      have eb2 : (((allOrders R.length).take (i + 1)).map fun o => ((least (pick R o)).getD 0, o)).foldl bestStep (none, upto R.length) = bestStep bst (gp, o) := by
        obtain ⟨hi, eo⟩ := List.getElem?_eq_some_iff.mp ho
        rw [List.take_succ_eq_append_getElem hi, List.map_append, List.foldl_append, ← eb, eo]
        show bestStep bst ((least (pick R o)).getD 0, o) = _
        rw [hgp]; rfl
      have ht1 := g1 _ _ ht
      refine ⟨_, rfl, t, _, _, _, rfl, rfl, SqT.of ht1, atI_nat (j := 0) rfl, rfl, _, rfl, ?_⟩
      rw [optV_non]
      cases hb1 : bst.1 with
      | none =>
        have eS : bestStep bst (gp, o) = (some gp, o) := by unfold bestStep; rw [hb1]
        refine iteT (iteT ⟨_, rfl, _, rfl, by show 2 ≤ sizeLine; decide, fun t2 nt2 => ?_⟩)
        refine ⟨t2, b2, _, _, _, rfl, (g.trans g1).trans (Same.new nt2), rfl, ?_, ?_, sg.free (g1.free nt2), s14.free nb2⟩
        · rw [eb2, eS]; exact upd_same
        · rw [eb2, eS]; exact (Same.new nt2) _ _ (g1 _ _ (g _ _ hb2))
      | some g0 =>
        refine iteF ⟨_, rfl, _, rfl, t, _, _, _, rfl, rfl, SqT.of ht1, atI_nat (j := 0) rfl, gp, g0, rfl, (by rw [hb1]; rfl), _, rfl, ?_⟩
        by_cases hgt : gp > g0
        · have eS : bestStep bst (gp, o) = (some gp, o) := by unfold bestStep; rw [hb1]; exact if_pos hgt
          rw [decide_eq_true hgt]
          refine iteT ⟨_, rfl, _, rfl, by show 2 ≤ sizeLine; decide, fun t2 nt2 => ?_⟩
          refine ⟨t2, b2, _, _, _, rfl, (g.trans g1).trans (Same.new nt2), rfl, ?_, ?_, sg.free (g1.free nt2), s14.free nb2⟩
          · rw [eb2, eS]; exact upd_same
          · rw [eb2, eS]; exact (Same.new nt2) _ _ (g1 _ _ (g _ _ hb2))
        · have eS : bestStep bst (gp, o) = bst := by unfold bestStep; rw [hb1]; exact if_neg hgt
          rw [decide_eq_false hgt]
          refine iteF ⟨t, b, _, _, _, rfl, g.trans g1, rfl, ?_, ?_, nt, nb⟩
          · rw [eb2, eS]; exact ht1
          · rw [eb2, eS]; exact g1 _ _ hb
    · rintro σ G ⟨t, b, x2, x3, bst, rfl, g, eb, ht, hb, nt, nb⟩
      rw [hyl, List.take_length, ← ew] at eb
      rw [eb] at ht hb
      exact ⟨_, rfl, q t b G nt nb (s15.trans g) ht hb⟩
end
end Song

/-! ### Gp3: songs of one singer each: counts, who bars, an order (plain) -/
namespace Song
theorem sub_len : ∀ {xs ys : List Int}, xs.Nodup → (∀ x ∈ xs, x ∈ ys) → xs.length ≤ ys.length
  | [], _, _, _ => Nat.zero_le _
  | x :: xs, ys, nd, h => by
    obtain ⟨n1, n2⟩ := List.nodup_cons.mp nd
    have hx := h x (by simp)
    have ih := sub_len (xs := xs) (ys := ys.erase x) n2 fun z hz => (List.mem_erase_of_ne (fun e : z = x => n1 (by rw [← e]; exact hz))).mpr (h z (by simp [hz]))
    have h1 := List.length_erase_of_mem hx
    have h2 := List.length_pos_of_mem hx
    rw [List.length_cons]; omega
theorem upto_succ (n : Nat) : upto (n + 1) = upto n ++ [(n : Int)] := by
  unfold upto
  rw [List.range_succ, List.map_append]; rfl
theorem mem_upto {n : Nat} {x : Int} : x ∈ upto n ↔ 0 ≤ x ∧ x < n := by
  unfold upto
  rw [List.mem_map]
  constructor
  · rintro ⟨i, hi, rfl⟩
    rw [List.mem_range] at hi
    omega
  · rintro ⟨h0, h1⟩
    exact ⟨x.toNat, List.mem_range.mpr (by omega), by omega⟩
theorem perm_of : ∀ {n : Nat} {xs : List Int}, xs.Nodup → InB n xs → xs.length = n → xs.Perm (upto n)
  | 0, xs, _, _, hl => by
    rw [List.eq_nil_of_length_eq_zero hl]; exact List.Perm.refl _
  | n + 1, xs, nd, hi, hl => by
    have hm : (n : Int) ∈ xs := by
      refine Classical.byContradiction fun h => ?_
      have := sub_len (ys := upto n) nd fun x hx => by
        have h1 := hi x hx
        have h2 : x ≠ (n : Int) := fun e => h (e ▸ hx)
        exact mem_upto.mpr (by omega)
      rw [upto_len] at this
      omega
    have ih := perm_of (n := n) (nd.erase (n : Int)) (fun x hx => by
      have h1 := hi x (List.mem_of_mem_erase hx)
      have h2 : x ≠ (n : Int) := fun e => by rw [e] at hx; exact nd.not_mem_erase hx
      omega) (by rw [List.length_erase_of_mem hm, hl]; rfl)
    rw [upto_succ]
    exact (List.perm_cons_erase hm).trans ((ih.cons _).trans (List.perm_append_singleton _ _).symm)
/-! #### counts -/
def countsOf (songs : List Int) : List (Int × Int) := songs.foldl (fun c s => putC c s ((getC c s).getD 0 + 1)) []
theorem countsOf_snoc (songs : List Int) (s : Int) : countsOf (songs ++ [s]) = putC (countsOf songs) s ((getC (countsOf songs) s).getD 0 + 1) := by
  unfold countsOf
  rw [List.foldl_append]; rfl
theorem counts_get (songs : List Int) (s : Int) : getC (countsOf songs) s = if s ∈ songs then some (songs.count s : Int) else none := by
  refine snoc_ind (P := fun songs => getC (countsOf songs) s = if s ∈ songs then some (songs.count s : Int) else none) rfl (fun l a ih => ?_) songs
  rw [countsOf_snoc, getC_putC, List.count_append]
  by_cases e : s = a
  · subst e
    have m : s ∈ l ++ [s] := List.mem_append.mpr (.inr (List.mem_singleton.mpr rfl))
    rw [if_pos rfl, ih, if_pos m]
    by_cases c : s ∈ l
    · rw [if_pos c]
      show some ((l.count s : Int) + 1) = _
      rw [List.count_singleton_self]; rfl
    · rw [if_neg c, List.count_eq_zero_of_not_mem c, List.count_singleton_self]; rfl
  · rw [if_neg e, ih]
    have e2 : [a].count s = 0 := List.count_eq_zero_of_not_mem (by simpa using e)
    rw [e2, Nat.add_zero]
    by_cases c : s ∈ l
    · rw [if_pos c, if_pos (by simp [c])]
    · rw [if_neg c, if_neg (by simp [c, e])]
theorem counts_getD (songs : List Int) (s : Int) : (getC (countsOf songs) s).getD 0 = (songs.count s : Int) := by
  rw [counts_get]
  by_cases c : s ∈ songs
  · rw [if_pos c]; rfl
  · rw [if_neg c, List.count_eq_zero_of_not_mem c]; rfl
def keysC (c : List (Int × Int)) : List Int := c.map (·.1)
theorem keys_put (c : List (Int × Int)) (k v : Int) : keysC (putC c k v) = if k ∈ keysC c then keysC c else keysC c ++ [k] := by
  unfold putC keysC
  have e : (c.any fun p => decide (p.1 = k)) = true ↔ k ∈ c.map (·.1) := by
    rw [List.any_eq_true, List.mem_map]
    constructor
    · rintro ⟨p, hp, h⟩; exact ⟨p, hp, of_decide_eq_true h⟩
    · rintro ⟨p, hp, h⟩; exact ⟨p, hp, decide_eq_true h⟩
  by_cases h : k ∈ c.map (·.1)
  · rw [if_pos (e.mpr h), if_pos h, List.map_map]
    refine List.map_congr_left fun p _ => ?_
    show (if p.1 = k then (p.1, v) else p).1 = p.1
    split <;> rfl
  · rw [if_neg (fun z => h (e.mp z)), if_neg h, List.map_append]; rfl
theorem keys_counts (songs : List Int) : (keysC (countsOf songs)).Nodup ∧ ∀ s, s ∈ keysC (countsOf songs) ↔ s ∈ songs := by
  refine snoc_ind (P := fun songs => (keysC (countsOf songs)).Nodup ∧ ∀ s, s ∈ keysC (countsOf songs) ↔ s ∈ songs) ⟨List.nodup_nil, fun s => Iff.rfl⟩ (fun l a ih => ?_) songs
  rw [countsOf_snoc, keys_put]
  obtain ⟨i1, i2⟩ := ih
  by_cases h : a ∈ keysC (countsOf l)
  · rw [if_pos h]
    refine ⟨i1, fun s => ?_⟩
    rw [i2, List.mem_append, List.mem_singleton]
    exact ⟨.inl, fun z => z.elim id fun e => by rw [e]; exact (i2 a).mp h⟩
  · rw [if_neg h]
    refine ⟨List.nodup_append.mpr ⟨i1, by simp, fun x hx y hy e => h (by rw [List.mem_singleton.mp hy] at e; rw [← e]; exact hx)⟩, fun s => ?_⟩
    rw [List.mem_append, List.mem_append, i2]
/-- the singers of songs, rising -/
def sng (songs : List Int) : List Int := (upto 6).filter fun s => decide (s ∈ songs)
def SgOk (songs : List Int) : Prop := ∀ s ∈ songs, 0 ≤ s ∧ s < 6
theorem mem_sng {songs : List Int} (h : SgOk songs) {s : Int} : s ∈ sng songs ↔ s ∈ songs := by
  unfold sng
  rw [List.mem_filter, decide_eq_true_eq, mem_upto]
  exact ⟨fun z => z.2, fun z => ⟨h s z, z⟩⟩
theorem upto_lt (n : Nat) : (upto n).Pairwise (· < ·) := by
  unfold upto
  rw [List.pairwise_map]
  exact List.pairwise_lt_range.imp fun {a b} h => by omega
theorem sng_lt (songs : List Int) : (sng songs).Pairwise (· < ·) := (upto_lt 6).filter _
theorem sng_of {songs ys : List Int} (h : SgOk songs) (p : ys.Perm (keysC (countsOf songs))) (pw : ys.Pairwise (· ≤ ·)) : ys = sng songs := by
  obtain ⟨k1, k2⟩ := keys_counts songs
  have nd : ys.Nodup := p.nodup_iff.mpr k1
  have lt : ys.Pairwise (· < ·) := by
    have := pw.and nd
    exact this.imp fun {a b} z => by have := z.1; have := z.2; omega
  exact pw_ext lt (sng_lt songs) fun z => by rw [p.mem_iff, k2, mem_sng h]
/-! #### who bars -/
def whole (songs : List Int) (gap : Int) : Int := (songs.length : Int) / (gap + 1)
def rest (songs : List Int) (gap : Int) : Int := (songs.length : Int) % (gap + 1)
def most (songs : List Int) (gap : Int) : Int := whole songs gap + if rest songs gap > 0 then 1 else 0
def barsP (songs : List Int) (gap : Int) (ss : List Int) : Bool :=
  if ss = [] ∨ rising ss = false then false else if ss.length = 1 ∧ (songs.count (ss.headD 0) : Int) > most songs gap then true
  else decide (0 < rest songs gap ∧ rest songs gap < (ss.length : Int)) && ss.all fun s => decide ((songs.count s : Int) > whole songs gap)
def full (songs : List Int) (gap : Int) : List Int := (sng songs).filter fun s => decide ((songs.count s : Int) > whole songs gap)
def few (songs : List Int) (gap : Int) : List Int := (sng songs).filter fun s => decide ((songs.count s : Int) ≤ whole songs gap)
def barring (songs : List Int) (gap : Int) : Option (List Int) := match (sng songs).find? fun s => barsP songs gap [s] with
  | some s => some [s]
  | none => if barsP songs gap (full songs gap) = true then some (full songs gap) else none
theorem barring_bars {songs : List Int} {gap : Int} {ss : List Int} (h : barring songs gap = some ss) : barsP songs gap ss = true := by
  unfold barring at h
  cases e : (sng songs).find? fun s => barsP songs gap [s] with
  | some s =>
    rw [e] at h
    rw [← Option.some.inj h]
    exact List.find?_some (p := fun s => barsP songs gap [s]) e
  | none =>
    rw [e] at h
    dsimp only at h
    split at h
    · rw [← Option.some.inj h]; assumption
    · cases h
theorem bars_one (songs : List Int) (gap : Int) (s : Int) (h : (songs.count s : Int) > most songs gap) : barsP songs gap [s] = true := by
  unfold barsP
  rw [if_neg (by simp [rising]), if_pos ⟨rfl, h⟩]
theorem barring_none {songs : List Int} {gap : Int} (hg : 0 ≤ gap) (hs : SgOk songs) (h : barring songs gap = none) : (∀ s ∈ songs, (songs.count s : Int) ≤ most songs gap) ∧ ((full songs gap).length : Int) ≤ rest songs gap := by
  unfold barring at h
  have hr0 : 0 ≤ rest songs gap := Int.emod_nonneg _ (by omega)
  cases e : (sng songs).find? fun s => barsP songs gap [s] with
  | some s => rw [e] at h; cases h
  | none =>
    rw [e] at h
    dsimp only at h
    have h1 : ∀ s ∈ songs, (songs.count s : Int) ≤ most songs gap := fun s hs2 => by
      refine Classical.byContradiction fun z => ?_
      have := List.find?_eq_none.mp e s ((mem_sng hs).mpr hs2)
      exact this (bars_one songs gap s (by omega))
    refine ⟨h1, ?_⟩
    by_cases hb : barsP songs gap (full songs gap) = true
    · rw [if_pos hb] at h; cases h
    refine Classical.byContradiction fun z => hb ?_
    have hne : full songs gap ≠ [] := fun e => by rw [e] at z; simp at z; omega
    have hri : rising (full songs gap) = true := rising_of ((sng_lt songs).filter _)
    have hall : ((full songs gap).all fun s => decide ((songs.count s : Int) > whole songs gap)) = true := List.all_eq_true.mpr fun s hs => (List.mem_filter.mp hs).2
    have hr : 0 < rest songs gap := by
      refine Classical.byContradiction fun z2 => ?_
      obtain ⟨s, hs2⟩ := List.exists_mem_of_ne_nil _ hne
      obtain ⟨m1, m2⟩ := List.mem_filter.mp hs2
      have a1 := h1 s ((mem_sng hs).mp m1)
      have a2 := of_decide_eq_true m2
      unfold most at a1
      rw [if_neg (by omega)] at a1
      omega
    unfold barsP
    rw [if_neg (by rw [hri]; simp [hne])]
    split
    · rfl
    · rw [hall, decide_eq_true ⟨hr, by omega⟩]; rfl
end Song

/-! ### Gp4: an order that keeps a gap (plain) -/
namespace Song
/-! #### turns by what they leave by a width -/
def cls (n w c : Nat) : List Int := (List.range ((n - c - 1) / w + 1)).map fun i : Nat => ((c + i * w : Nat) : Int)
def Tn (n w : Nat) : Nat → List Int
  | 0 => []
  | c + 1 => cls n w c ++ Tn n w c
theorem cls_len (n w c : Nat) : (cls n w c).length = (n - c - 1) / w + 1 := by unfold cls; rw [List.length_map, List.length_range]
theorem cls_get {n w c i : Nat} (h : i < (cls n w c).length) : (cls n w c)[i]? = some ((c + i * w : Nat) : Int) := by
  rw [cls_len] at h
  unfold cls
  rw [List.getElem?_map, List.getElem?_range h]; rfl
theorem cls_size {n w c : Nat} (hw : 0 < w) (h1 : c < w) (h2 : c < n) : (cls n w c).length = if c < n % w then n / w + 1 else n / w := by
  rw [cls_len]
  have e := Nat.div_add_mod n w
  have hr := Nat.mod_lt n hw
  generalize n / w = q at *
  generalize n % w = r at *
  by_cases hc : c < r
  · rw [if_pos hc, show n - c - 1 = w * q + (r - c - 1) by omega, Nat.mul_add_div hw, Nat.div_eq_of_lt (by omega)]
  · rw [if_neg hc]
    cases q with
    | zero => rw [Nat.mul_zero] at e; omega
    | succ q =>
      rw [Nat.mul_succ] at e
      rw [show n - c - 1 = w * q + (w + r - c - 1) by omega, Nat.mul_add_div hw, Nat.div_eq_of_lt (by omega)]
theorem Tn_get0 {n w c j : Nat} (h : j < (cls n w c).length) : (Tn n w (c + 1))[j]? = some ((c + j * w : Nat) : Int) := by
  show (cls n w c ++ _)[j]? = _
  rw [List.getElem?_append_left h, cls_get h]
theorem far_same {c k k' w : Nat} (h : k < k') : (w : Int) ≤ ((c + k' * w : Nat) : Int) - ((c + k * w : Nat) : Int) := by
  obtain ⟨d, rfl⟩ : ∃ d, k' = k + 1 + d := ⟨k' - k - 1, by omega⟩
  rw [Nat.add_mul, Nat.add_mul, Nat.one_mul]
  generalize k * w = a
  generalize d * w = b
  omega
/-- near in the turn, far in place -/
theorem Tn_far {n w : Nat} (hw : 0 < w) : ∀ c, c ≤ w → c ≤ n → ∀ (k k' : Nat) (x y : Int), k < k' → k' - k < n / w → (Tn n w c)[k]? = some x → (Tn n w c)[k']? = some y → (w : Int) ≤ x - y ∨ (w : Int) ≤ y - x
  | 0, _, _ => fun k k' x y _ _ hx _ => by cases hx
  | c + 1, h1, h2 => fun k k' x y hk hq hx hy => by
    have ih := Tn_far (n := n) hw c (by omega) (by omega)
    have sz := cls_size (n := n) hw (show c < w by omega) (show c < n by omega)
    have szq : n / w ≤ (cls n w c).length := by rw [sz]; generalize n / w = q; split <;> omega
    have ex : Tn n w (c + 1) = cls n w c ++ Tn n w c := rfl
    by_cases a : k' < (cls n w c).length
    · rw [Tn_get0 a] at hy
      rw [Tn_get0 (by omega)] at hx
      rw [← Option.some.inj hx, ← Option.some.inj hy]
      exact .inr (far_same hk)
    · by_cases b : k < (cls n w c).length
      · rw [Tn_get0 b] at hx
        rw [ex, List.getElem?_append_right (by omega)] at hy
        cases c with
        | zero => cases hy
        | succ c =>
          have sz2 := cls_size (n := n) hw (show c < w by omega) (show c < n by omega)
          have le2 : (cls n w (c + 1)).length ≤ (cls n w c).length := by
            rw [sz, sz2]
            split <;> split <;> omega
          generalize hj : k' - (cls n w (c + 1)).length = j at *
          have hji : j < k := by omega
          rw [Tn_get0 (show j < (cls n w c).length by omega)] at hy
          rw [← Option.some.inj hx, ← Option.some.inj hy]
          have := far_same (c := c) (w := w) hji
          exact .inl (by omega)
      · rw [ex, List.getElem?_append_right (by omega)] at hx hy
        exact ih (k - (cls n w c).length) (k' - (cls n w c).length) x y (by omega) (by omega) hx hy
theorem Tn_split {n w : Nat} : ∀ c f, f ≤ c → ∃ A, Tn n w c = A ++ Tn n w f
  | 0, f, h => ⟨[], by rw [show f = 0 by omega]; rfl⟩
  | c + 1, f, h => by
    by_cases e : f = c + 1
    · exact ⟨[], by rw [e]; rfl⟩
    · obtain ⟨A, hA⟩ := Tn_split (n := n) (w := w) c f (by omega)
      exact ⟨cls n w c ++ A, by show cls n w c ++ Tn n w c = _; rw [hA, List.append_assoc]⟩
theorem Tn_len {n w : Nat} (hw : 0 < w) : ∀ c, c ≤ w → c ≤ n → (Tn n w c).length = c * (n / w) + min c (n % w)
  | 0, _, _ => by simp [Tn]
  | c + 1, h1, h2 => by
    show (cls n w c ++ Tn n w c).length = _
    rw [List.length_append, Tn_len hw c (by omega) (by omega), cls_size hw (by omega) (by omega), Nat.add_mul, Nat.one_mul]
    generalize c * (n / w) = a
    split <;> omega
theorem mem_cls {n w c : Nat} {x : Int} (hw : 0 < w) (hc : c < n) : x ∈ cls n w c → ∃ i : Nat, x = ((c + i * w : Nat) : Int) ∧ c + i * w < n := fun h => by
  obtain ⟨i, hi, rfl⟩ := List.mem_map.mp h
  rw [List.mem_range] at hi
  refine ⟨i, rfl, ?_⟩
  have h1 : i ≤ (n - c - 1) / w := by omega
  have h2 := Nat.mul_le_mul_right w h1
  have h3 := Nat.div_mul_le_self (n - c - 1) w
  omega
theorem mem_Tn {n w : Nat} (hw : 0 < w) {x : Int} : ∀ c, c ≤ w → c ≤ n → x ∈ Tn n w c → ∃ a i : Nat, a < c ∧ x = ((a + i * w : Nat) : Int) ∧ a + i * w < n
  | 0, _, _ => fun h => by cases h
  | c + 1, h1, h2 => fun h => by
    rcases List.mem_append.mp h with h | h
    · obtain ⟨i, e, l⟩ := mem_cls hw (by omega) h
      exact ⟨c, i, by omega, e, l⟩
    · obtain ⟨a, i, h3, h4⟩ := mem_Tn hw c (by omega) (by omega) h
      exact ⟨a, i, by omega, h4⟩
theorem Tn_nodup {n w : Nat} (hw : 0 < w) : ∀ c, c ≤ w → c ≤ n → (Tn n w c).Nodup
  | 0, _, _ => List.nodup_nil
  | c + 1, h1, h2 => by
    refine List.nodup_append.mpr ⟨?_, Tn_nodup hw c (by omega) (by omega), fun x hx y hy e => ?_⟩
    · unfold cls
      refine List.pairwise_map.mpr (List.pairwise_lt_range.imp fun {a b} h => ?_)
      have := far_same (c := c) (w := w) h
      omega
    · obtain ⟨i, e1, _⟩ := mem_cls hw (by omega) hx
      obtain ⟨a, j, ha, e2, _⟩ := mem_Tn hw c (by omega) (by omega) hy
      have e3 : c + i * w = a + j * w := by omega
      have m1 : (c + i * w) % w = c := by rw [Nat.add_mul_mod_self_right, Nat.mod_eq_of_lt (by omega)]
      have m2 : (a + j * w) % w = a := by rw [Nat.add_mul_mod_self_right, Nat.mod_eq_of_lt (by omega)]
      rw [e3] at m1
      omega
def turnsIn (n w : Nat) : List Int := Tn n w (min w n)
theorem turns_len {n w : Nat} (hw : 0 < w) : (turnsIn n w).length = n := by
  unfold turnsIn
  rw [Tn_len hw _ (Nat.min_le_left _ _) (Nat.min_le_right _ _)]
  have e := Nat.div_add_mod n w
  have hr := Nat.mod_lt n hw
  by_cases h : w ≤ n
  · rw [Nat.min_eq_left h]
    generalize n / w = q at *
    omega
  · have h0 : n / w = 0 := Nat.div_eq_of_lt (by omega)
    rw [h0] at e ⊢
    omega
theorem turns_perm {n w : Nat} (hw : 0 < w) : (turnsIn n w).Perm (upto n) := by
  refine perm_of (Tn_nodup hw _ (Nat.min_le_left _ _) (Nat.min_le_right _ _)) (fun x hx => ?_) (turns_len hw)
  obtain ⟨a, i, _, e, l⟩ := mem_Tn hw _ (Nat.min_le_left _ _) (Nat.min_le_right _ _) hx
  omega
/-! #### blocks of alike ones -/
def blocks (cnt : Int → Nat) (ss : List Int) : List Int := ss.flatMap fun s => List.replicate (cnt s) s
theorem mem_blocks {cnt : Int → Nat} {ss : List Int} {x : Int} (h : x ∈ blocks cnt ss) : x ∈ ss := by
  obtain ⟨s, hs, hx⟩ := List.mem_flatMap.mp h
  rw [(List.mem_replicate.mp hx).2]; exact hs
theorem blocks_near {cnt : Int → Nat} : ∀ {ss : List Int}, ss.Nodup → ∀ (k k' : Nat) (s : Int), k < k' → (blocks cnt ss)[k]? = some s → (blocks cnt ss)[k']? = some s → k' - k < cnt s
  | [], _ => fun k k' s _ h _ => by cases h
  | a :: ss, nd => fun k k' s hk h1 h2 => by
    obtain ⟨n1, n2⟩ := List.nodup_cons.mp nd
    have e : blocks cnt (a :: ss) = List.replicate (cnt a) a ++ blocks cnt ss := rfl
    have la : (List.replicate (cnt a) a).length = cnt a := List.length_replicate
    rw [e] at h1 h2
    by_cases b : k < cnt a
    · rw [List.getElem?_append_left (by omega), List.getElem?_replicate, if_pos b] at h1
      have es : a = s := Option.some.inj h1
      subst es
      by_cases b2 : k' < cnt a
      · omega
      · rw [List.getElem?_append_right (by omega)] at h2
        exact absurd (mem_blocks (List.mem_of_getElem? h2)) n1
    · rw [List.getElem?_append_right (by omega), la] at h1
      rw [List.getElem?_append_right (by omega), la] at h2
      have := blocks_near n2 (k - cnt a) (k' - cnt a) s (by omega) h1 h2
      omega
theorem blocks_full {n w : Nat} {cnt : Int → Nat} (hw : 0 < w) : ∀ {ss : List Int}, ss.Nodup → ss.length ≤ n % w → (∀ s ∈ ss, cnt s = n / w + 1) →
    (blocks cnt ss).length = ss.length * (n / w + 1) ∧ ∀ (k k' : Nat) (s x y : Int), k < k' → (blocks cnt ss)[k]? = some s → (blocks cnt ss)[k']? = some s → (Tn n w ss.length)[k]? = some x → (Tn n w ss.length)[k']? = some y → (w : Int) ≤ y - x
  | [], _, _, _ => ⟨by simp [blocks], fun k k' s x y _ h _ _ _ => by cases h⟩
  | a :: ss, nd, hl, hc => by
    obtain ⟨n1, n2⟩ := List.nodup_cons.mp nd
    rw [List.length_cons] at hl
    obtain ⟨i1, i2⟩ := blocks_full hw n2 (by omega) fun s hs => hc s (by simp [hs])
    have e : blocks cnt (a :: ss) = List.replicate (cnt a) a ++ blocks cnt ss := rfl
    have la : (List.replicate (cnt a) a).length = n / w + 1 := by rw [List.length_replicate, hc a (by simp)]
    have hr := Nat.mod_lt n hw
    have hrn := Nat.mod_le n w
    have sz := cls_size (n := n) hw (show ss.length < w by omega) (show ss.length < n by omega)
    rw [if_pos (by omega)] at sz
    have eT : Tn n w (a :: ss).length = cls n w ss.length ++ Tn n w ss.length := rfl
    refine ⟨by rw [e, List.length_append, la, i1, List.length_cons, Nat.add_mul, Nat.one_mul]; omega, fun k k' s x y hk h1 h2 hx hy => ?_⟩
    rw [e] at h1 h2
    rw [eT] at hx hy
    by_cases b : k < n / w + 1
    · rw [List.getElem?_append_left (by omega)] at h1
      have es : s = a := (List.mem_replicate.mp (List.mem_of_getElem? h1)).2
      subst es
      by_cases b2 : k' < n / w + 1
      · rw [List.getElem?_append_left (by omega), cls_get (by omega)] at hx hy
        rw [← Option.some.inj hx, ← Option.some.inj hy]
        exact far_same hk
      · rw [List.getElem?_append_right (by omega)] at h2
        exact absurd (mem_blocks (List.mem_of_getElem? h2)) n1
    · rw [List.getElem?_append_right (by omega), la] at h1 h2
      rw [List.getElem?_append_right (by omega), sz] at hx hy
      exact i2 _ _ s x y (by omega) h1 h2 hx hy
end Song

/-! ### Gp5: the order that is told; who bars has none (plain) -/
namespace Song
def atS (songs : List Int) (o : Int) : Int := songs.getD o.toNat 0
def singles (songs : List Int) : List (List Int) := songs.map fun s => [s]
theorem singles_len (songs : List Int) : (singles songs).length = songs.length := List.length_map _
theorem singles_getD {songs : List Int} {i : Nat} (h : i < songs.length) : (singles songs).getD i [] = [songs.getD i 0] := by
  unfold singles
  rw [List.getD_eq_getElem?_getD, List.getElem?_map, List.getElem?_eq_getElem h, List.getD_eq_getElem?_getD, List.getElem?_eq_getElem h]; rfl
theorem mem_places {songs : List Int} {s x : Int} : x ∈ spots s (singles songs) ↔ ∃ i : Nat, i < songs.length ∧ songs.getD i 0 = s ∧ x = i := by
  rw [spots_mem, singles_len]
  constructor
  · rintro ⟨i, hi, hm, e⟩
    rw [singles_getD hi, List.mem_singleton] at hm
    exact ⟨i, hi, hm.symm, e⟩
  · rintro ⟨i, hi, hm, e⟩
    exact ⟨i, hi, by rw [singles_getD hi, hm]; simp, e⟩
theorem places_len (songs : List Int) (s : Int) : (spots s (singles songs)).length = songs.count s := by
  rw [spots_len]
  unfold singles
  rw [List.countP_map, List.count_eq_countP]
  congr 1
  funext x
  show decide (s ∈ [x]) = (x == s)
  by_cases e : x = s
  · subst e
    rw [decide_eq_true (List.mem_singleton.mpr rfl)]
    exact (beq_self_eq_true x).symm
  · rw [decide_eq_false (fun z => e (List.mem_singleton.mp z).symm)]
    exact (beq_eq_false_iff_ne.mpr e).symm
theorem places_map (songs : List Int) (s : Int) : (spots s (singles songs)).map (atS songs) = List.replicate (songs.count s) s := by
  rw [List.eq_replicate_iff]
  refine ⟨by rw [List.length_map, places_len], fun b hb => ?_⟩
  obtain ⟨x, hx, rfl⟩ := List.mem_map.mp hb
  obtain ⟨i, hi, e, rfl⟩ := mem_places.mp hx
  exact e
def placesOf (songs ss : List Int) : List Int := ss.flatMap fun s => spots s (singles songs)
theorem placesOf_map (songs : List Int) : ∀ ss : List Int, (placesOf songs ss).map (atS songs) = blocks (fun s => songs.count s) ss
  | [] => rfl
  | s :: ss => by
    have e : placesOf songs (s :: ss) = spots s (singles songs) ++ placesOf songs ss := rfl
    have e2 : blocks (fun s => songs.count s) (s :: ss) = List.replicate (songs.count s) s ++ blocks (fun s => songs.count s) ss := rfl
    rw [e, e2, List.map_append, places_map, placesOf_map songs ss]
theorem placesOf_in {songs ss : List Int} : InB songs.length (placesOf songs ss) := fun x hx => by
  obtain ⟨s, _, h⟩ := List.mem_flatMap.mp hx
  obtain ⟨i, hi, _, rfl⟩ := mem_places.mp h
  omega
theorem placesOf_nodup {songs : List Int} : ∀ {ss : List Int}, ss.Nodup → (placesOf songs ss).Nodup
  | [], _ => List.nodup_nil
  | s :: ss, nd => by
    obtain ⟨n1, n2⟩ := List.nodup_cons.mp nd
    refine List.nodup_append.mpr ⟨(spots_sorted _ _).imp fun {a b} h => by omega, placesOf_nodup n2, fun x hx y hy e => ?_⟩
    obtain ⟨i, hi, e1, rfl⟩ := mem_places.mp hx
    obtain ⟨s', hs', h⟩ := List.mem_flatMap.mp hy
    obtain ⟨j, hj, e2, rfl⟩ := mem_places.mp h
    have : i = j := by omega
    subst this
    rw [e1] at e2
    subst e2
    exact n1 hs'
theorem placesOf_perm {songs ss : List Int} (nd : ss.Nodup) (h : ∀ s ∈ songs, s ∈ ss) : (placesOf songs ss).Perm (upto songs.length) := by
  refine perm_of (placesOf_nodup nd) placesOf_in (Nat.le_antisymm (nodup_len placesOf_in (placesOf_nodup nd)) ?_)
  have := sub_len (xs := upto songs.length) (ys := placesOf songs ss) ((upto_lt _).imp fun {a b} h => by omega) fun x hx => by
    obtain ⟨h0, h1⟩ := mem_upto.mp hx
    have hi : x.toNat < songs.length := by omega
    refine List.mem_flatMap.mpr ⟨songs.getD x.toNat 0, h _ ?_, mem_places.mpr ⟨x.toNat, hi, rfl, by omega⟩⟩
    rw [List.getD_eq_getElem?_getD, List.getElem?_eq_getElem hi]
    exact List.getElem_mem hi
  rwa [upto_len] at this
/-! #### laying by turns -/
def setAt (l : List Int) (pt : Int × Int) : List Int := l.set pt.2.toNat pt.1
theorem setAts_len : ∀ (zs : List (Int × Int)) (l : List Int), (zs.foldl setAt l).length = l.length
  | [], _ => rfl
  | z :: zs, l => by
    show (zs.foldl setAt (setAt l z)).length = _
    rw [setAts_len zs]
    exact List.length_set
theorem setAts_other {j : Nat} : ∀ (zs : List (Int × Int)) (l : List Int), (∀ z ∈ zs, z.2.toNat ≠ j) → (zs.foldl setAt l)[j]? = l[j]?
  | [], _, _ => rfl
  | z :: zs, l, h => by
    show (zs.foldl setAt (setAt l z))[j]? = _
    rw [setAts_other zs _ fun z' hz => h z' (by simp [hz])]
    exact List.getElem?_set_ne (h z (by simp))
theorem setAts_get : ∀ (zs : List (Int × Int)) (l : List Int), (zs.map fun z => z.2.toNat).Nodup → (∀ z ∈ zs, z.2.toNat < l.length) → ∀ z ∈ zs, (zs.foldl setAt l)[z.2.toNat]? = some z.1
  | [], _, _, _, _, h => by cases h
  | z :: zs, l, nd, hi, z', h => by
    rw [List.map_cons] at nd
    obtain ⟨n1, n2⟩ := List.nodup_cons.mp nd
    show (zs.foldl setAt (setAt l z))[z'.2.toNat]? = _
    rcases List.mem_cons.mp h with e | e
    · subst e
      rw [setAts_other zs _ fun y hy e => n1 (List.mem_map.mpr ⟨y, hy, e⟩)]
      exact List.getElem?_set_self (hi z' (by simp))
    · exact setAts_get zs _ n2 (fun y hy => by show _ < (List.set _ _ _).length; rw [List.length_set]; exact hi y (by simp [hy])) z' e
def orderFor (songs : List Int) (gap : Int) : List Int := ((placesOf songs (few songs gap ++ full songs gap)).zip (turnsIn songs.length (gap.toNat + 1))).foldl setAt (List.replicate songs.length 0)
/-- between two songs of one singer are always more than gap turns -/
def Spc (songs os : List Int) (gap : Int) : Prop := ∀ (i j : Nat) (x y : Int), i < j → os[i]? = some x → os[j]? = some y → atS songs x = atS songs y → gap < (j : Int) - i
theorem filter_split (songs : List Int) (gap : Int) : (few songs gap ++ full songs gap).Nodup ∧ ∀ s, s ∈ few songs gap ++ full songs gap ↔ s ∈ sng songs := by
  have nd : (sng songs).Nodup := (sng_lt songs).imp fun {a b} h => by omega
  refine ⟨List.nodup_append.mpr ⟨nd.filter _, nd.filter _, fun x hx y hy e => ?_⟩, fun s => ?_⟩
  · subst e
    have h1 := of_decide_eq_true (List.mem_filter.mp hx).2
    have h2 := of_decide_eq_true (List.mem_filter.mp hy).2
    omega
  · rw [List.mem_append]
    constructor
    · rintro (h | h) <;> exact (List.mem_filter.mp h).1
    · intro h
      by_cases c : (songs.count s : Int) ≤ whole songs gap
      · exact .inl (List.mem_filter.mpr ⟨h, decide_eq_true c⟩)
      · exact .inr (List.mem_filter.mpr ⟨h, decide_eq_true (by omega)⟩)
theorem order_ok {songs : List Int} {gap : Int} (hg : 0 ≤ gap) (hs : SgOk songs) (hb : barring songs gap = none) : (orderFor songs gap).Perm (upto songs.length) ∧ Spc songs (orderFor songs gap) gap := by
  obtain ⟨b1, b2⟩ := barring_none hg hs hb
  obtain ⟨f1, f2⟩ := filter_split songs gap
  have pP : (placesOf songs (few songs gap ++ full songs gap)).Perm (upto songs.length) := placesOf_perm f1 fun s h => (f2 s).mpr ((mem_sng hs).mpr h)
  have hw : 0 < gap.toNat + 1 := by omega
  have hgw : gap + 1 = ((gap.toNat + 1 : Nat) : Int) := by omega
  have hgw2 : gap < ((gap.toNat + 1 : Nat) : Int) := by omega
  unfold rest at b2
  have ewh : whole songs gap = ((songs.length / (gap.toNat + 1) : Nat) : Int) := by unfold whole; rw [hgw]; rfl
  have bm : ∀ s ∈ songs, (songs.count s : Int) ≤ (songs.length / (gap.toNat + 1) : Nat) + 1 := fun s h => by
    have := b1 s h
    unfold most at this
    rw [ewh] at this
    split at this <;> omega
  rw [hgw, ← Int.natCast_emod] at b2
  have ePm : (placesOf songs (few songs gap ++ full songs gap)).map (atS songs) = blocks (fun s => songs.count s) (few songs gap) ++ blocks (fun s => songs.count s) (full songs gap) := by
    rw [placesOf_map]
    exact List.flatMap_append
  have eo : orderFor songs gap = ((placesOf songs (few songs gap ++ full songs gap)).zip (turnsIn songs.length (gap.toNat + 1))).foldl setAt (List.replicate songs.length 0) := rfl
  have pT := turns_perm (n := songs.length) hw
  have lT := turns_len (n := songs.length) hw
  generalize hP : placesOf songs (few songs gap ++ full songs gap) = P at *
  generalize hT : turnsIn songs.length (gap.toNat + 1) = T at *
  have lP : P.length = songs.length := by rw [pP.length_eq, upto_len]
  have iT : InB songs.length T := perm_in pT
  have ndT : T.Nodup := pT.nodup_iff.mpr ((upto_lt _).imp fun {a b} h => by omega)
  have ndP : P.Nodup := pP.nodup_iff.mpr ((upto_lt _).imp fun {a b} h => by omega)
  have lo : (orderFor songs gap).length = songs.length := by rw [eo, setAts_len, List.length_replicate]
  have og : ∀ (k : Nat) (t p : Int), T[k]? = some t → P[k]? = some p → (orderFor songs gap)[t.toNat]? = some p := fun k t p h1 h2 => by
    rw [eo]
    refine setAts_get (P.zip T) _ ?_ (fun z hz => ?_) (p, t) (List.mem_of_getElem? (i := k) (by rw [List.getElem?_zip_eq_some]; exact ⟨h2, h1⟩))
    · have e : (P.zip T).map (fun z => z.2.toNat) = T.map Int.toNat := by
        rw [show (fun z : Int × Int => z.2.toNat) = Int.toNat ∘ Prod.snd from rfl, ← List.map_map, List.map_snd_zip (by omega)]
      rw [e]
      refine List.pairwise_map.mpr ?_
      refine List.Pairwise.imp_of_mem (fun {a b} ha hb h => ?_) ndT
      have := iT a ha
      have := iT b hb
      omega
    · rw [List.length_replicate]
      have := iT z.2 (List.of_mem_zip hz).2
      omega
  -- every place has its turn
  have back : ∀ (i : Nat) (x : Int), (orderFor songs gap)[i]? = some x → ∃ k, T[k]? = some (i : Int) ∧ P[k]? = some x := fun i x h => by
    have hi : i < songs.length := by rw [← lo]; exact (List.getElem?_eq_some_iff.mp h).1
    have hm : (i : Int) ∈ T := pT.symm.subset (mem_upto.mpr (by omega))
    obtain ⟨k, hk, e⟩ := List.mem_iff_getElem.mp hm
    have hk2 : k < P.length := by omega
    have h1 : T[k]? = some (i : Int) := by rw [List.getElem?_eq_getElem hk, e]
    have h2 := og k i P[k] h1 (List.getElem?_eq_getElem hk2)
    rw [show ((i : Int)).toNat = i by omega, h] at h2
    exact ⟨k, h1, by rw [h2]; exact List.getElem?_eq_getElem hk2⟩
  have inj : ∀ {l : List Int} {a b : Nat} {x : Int}, l.Nodup → l[a]? = some x → l[b]? = some x → a = b := fun {l a b x} nd h1 h2 => by
    obtain ⟨ha, e1⟩ := List.getElem?_eq_some_iff.mp h1
    obtain ⟨hb, e2⟩ := List.getElem?_eq_some_iff.mp h2
    have pw := List.pairwise_iff_getElem.mp nd
    refine Classical.byContradiction fun ne => ?_
    rcases Nat.lt_or_gt_of_ne ne with h | h
    · exact pw a b ha hb h (by rw [e1, e2])
    · exact pw b a hb ha h (by rw [e1, e2])
  refine ⟨perm_of ?_ (fun x hx => ?_) lo, ?_⟩
  · refine List.pairwise_iff_getElem.mpr fun a b ha hb hab e => ?_
    obtain ⟨k, h1, h2⟩ := back a _ (List.getElem?_eq_getElem ha)
    obtain ⟨k', h3, h4⟩ := back b _ (List.getElem?_eq_getElem hb)
    rw [e] at h2
    have := inj ndP h2 h4
    subst this
    rw [h1] at h3
    have := Option.some.inj h3
    omega
  · obtain ⟨i, hi, e⟩ := List.mem_iff_getElem.mp hx
    obtain ⟨k, h1, h2⟩ := back i _ (List.getElem?_eq_getElem hi)
    rw [e] at h2
    have := perm_in pP x (List.mem_of_getElem? h2)
    exact this
  · intro i j x y hij hx hy hxy
    obtain ⟨k, t1, p1⟩ := back i x hx
    obtain ⟨k', t2, p2⟩ := back j y hy
    have X1 : (P.map (atS songs))[k]? = some (atS songs x) := by rw [List.getElem?_map, p1]; rfl
    have X2 : (P.map (atS songs))[k']? = some (atS songs x) := by rw [List.getElem?_map, p2, hxy]; rfl
    have nk : k ≠ k' := fun e => by
      subst e
      rw [t1] at t2
      have := Option.some.inj t2
      omega
    generalize atS songs x = s at *
    have fl : ∀ s ∈ full songs gap, songs.count s = songs.length / (gap.toNat + 1) + 1 := fun s h => by
      obtain ⟨m1, m2⟩ := List.mem_filter.mp h
      have a1 := of_decide_eq_true m2
      have a2 := bm s ((mem_sng hs).mp m1)
      rw [ewh] at a1
      omega
    have fw : ∀ s ∈ few songs gap, songs.count s ≤ songs.length / (gap.toNat + 1) := fun s h => by
      have a1 := of_decide_eq_true (List.mem_filter.mp h).2
      rw [ewh] at a1
      omega
    have ndF : (few songs gap).Nodup := (List.nodup_append.mp f1).1
    have ndL : (full songs gap).Nodup := (List.nodup_append.mp f1).2.1
    have dj := (List.nodup_append.mp f1).2.2
    obtain ⟨bl, bf⟩ := blocks_full (n := songs.length) (cnt := fun s => songs.count s) hw ndL (by omega) fl
    have key : ∀ (a b : Nat) (ta tb : Int), a < b → (P.map (atS songs))[a]? = some s → (P.map (atS songs))[b]? = some s → T[a]? = some ta → T[b]? = some tb → ((gap.toNat + 1 : Nat) : Int) ≤ ta - tb ∨ ((gap.toNat + 1 : Nat) : Int) ≤ tb - ta := fun a b ta tb hab ha hb hta htb => by
      rw [ePm] at ha hb
      have m1 := Nat.min_le_left (gap.toNat + 1) songs.length
      have m2 := Nat.min_le_right (gap.toNat + 1) songs.length
      have eT : T = Tn songs.length (gap.toNat + 1) (min (gap.toNat + 1) songs.length) := hT.symm
      by_cases cb : b < (blocks (fun s => songs.count s) (few songs gap)).length
      · rw [List.getElem?_append_left (by omega)] at ha hb
        have nr := blocks_near ndF a b s hab ha hb
        have := fw s (mem_blocks (List.mem_of_getElem? hb))
        rw [eT] at hta htb
        exact Tn_far hw _ m1 m2 a b ta tb hab (Nat.lt_of_lt_of_le nr this) hta htb
      · rw [List.getElem?_append_right (by omega)] at hb
        by_cases ca : a < (blocks (fun s => songs.count s) (few songs gap)).length
        · rw [List.getElem?_append_left ca] at ha
          exact absurd rfl (dj s (mem_blocks (List.mem_of_getElem? ha)) s (mem_blocks (List.mem_of_getElem? hb)))
        · rw [List.getElem?_append_right (by omega)] at ha
          have hf : (full songs gap).length ≤ min (gap.toNat + 1) songs.length := by
            have h1 := Nat.mod_lt songs.length hw
            have h2 := Nat.mod_le songs.length (gap.toNat + 1)
            generalize songs.length % (gap.toNat + 1) = r at *
            omega
          obtain ⟨A, hA⟩ := Tn_split (n := songs.length) (w := gap.toNat + 1) (min (gap.toNat + 1) songs.length) (full songs gap).length hf
          have lX : (blocks (fun s => songs.count s) (few songs gap)).length + (blocks (fun s => songs.count s) (full songs gap)).length = songs.length := by
            rw [← List.length_append, ← ePm, List.length_map, lP]
          have lTf := Tn_len (n := songs.length) hw (full songs gap).length (Nat.le_trans hf m1) (Nat.le_trans hf m2)
          have lA : A.length = (blocks (fun s => songs.count s) (few songs gap)).length := by
            have e : (A ++ Tn songs.length (gap.toNat + 1) (full songs gap).length).length = songs.length := by rw [← hA, ← eT, lT]
            rw [List.length_append, lTf] at e
            rw [bl, Nat.mul_add, Nat.mul_one] at lX
            have : min (full songs gap).length (songs.length % (gap.toNat + 1)) = (full songs gap).length := Nat.min_eq_left (by omega)
            omega
          rw [eT, hA, List.getElem?_append_right (by omega), lA] at hta htb
          exact .inr (bf _ _ s ta tb (by omega) ha hb hta htb)
    have fin : ((gap.toNat + 1 : Nat) : Int) ≤ (i : Int) - j ∨ ((gap.toNat + 1 : Nat) : Int) ≤ (j : Int) - i := by
      rcases Nat.lt_or_gt_of_ne nk with h | h
      · exact key k k' i j h X1 X2 t1 t2
      · exact (key k' k j i h X2 X1 t2 t1).symm
    omega
end Song

/-! ### Gp6: keeping a gap, told two ways; who bars has no order; widest (plain) -/
namespace Song
def Apart (X : List Int) (w : Nat) : Prop := ∀ (i j : Nat) (s : Int), i < j → X[i]? = some s → X[j]? = some s → w ≤ j - i
theorem Apart.drop {X : List Int} {w : Nat} (h : Apart X w) (m : Nat) : Apart (X.drop m) w := fun i j s hij h1 h2 => by
  rw [List.getElem?_drop] at h1 h2
  have := h _ _ s (show m + i < m + j by omega) h1 h2
  omega
theorem Apart.take {X : List Int} {w : Nat} (h : Apart X w) (m : Nat) : Apart (X.take m) w := fun i j s hij h1 h2 => by
  have l := (List.getElem?_eq_some_iff.mp h2).1
  rw [List.length_take] at l
  rw [List.getElem?_take_of_lt (by omega)] at h1 h2
  exact h _ _ s hij h1 h2
theorem Apart.one {X : List Int} {w : Nat} (h : Apart X w) (hl : X.length ≤ w) (s : Int) : X.count s ≤ 1 := by
  have nd : X.Nodup := List.pairwise_iff_getElem.mpr fun i j hi hj hij e => by
    have := h i j X[i] hij (List.getElem?_eq_getElem hi) (by rw [e]; exact List.getElem?_eq_getElem hj)
    omega
  exact List.nodup_iff_count.mp nd s
theorem Apart.many {w : Nat} {s : Int} : ∀ {q : Nat} {X : List Int}, Apart X w → X.length = q * w → X.count s ≤ q
  | 0, X, _, hl => by
    rw [Nat.zero_mul] at hl
    rw [List.eq_nil_of_length_eq_zero hl]; simp
  | q + 1, X, h, hl => by
    rw [Nat.add_mul, Nat.one_mul] at hl
    have h1 := (h.take w).one (by rw [List.length_take]; omega) s
    have h2 := Apart.many (s := s) (q := q) (h.drop w) (by rw [List.length_drop]; omega)
    rw [← List.take_append_drop w X, List.count_append]
    omega
theorem map_upto (songs : List Int) : (upto songs.length).map (atS songs) = songs := by
  refine List.ext_getElem (by rw [List.length_map, upto_len]) fun i h1 h2 => ?_
  rw [List.getElem_map]
  unfold upto
  rw [List.getElem_map, List.getElem_range]
  show songs.getD i 0 = _
  rw [List.getD_eq_getElem?_getD, List.getElem?_eq_getElem h2]; rfl
theorem bars_no {songs : List Int} {gap : Int} {ss os : List Int} (hg : 0 ≤ gap) (hb : barsP songs gap ss = true) (p : os.Perm (upto songs.length)) : ¬ Spc songs os gap := fun hS => by
  have pX : (os.map (atS songs)).Perm songs := by
    have := p.map (atS songs)
    rwa [map_upto] at this
  have ap : Apart (os.map (atS songs)) (gap.toNat + 1) := fun i j s hij h1 h2 => by
    rw [List.getElem?_map] at h1 h2
    cases e1 : os[i]? with
    | none => rw [e1] at h1; cases h1
    | some x =>
      cases e2 : os[j]? with
      | none => rw [e2] at h2; cases h2
      | some y =>
        rw [e1] at h1
        rw [e2] at h2
        have := hS i j x y hij e1 e2 ((Option.some.inj h1).trans (Option.some.inj h2).symm)
        omega
  have hw : 0 < gap.toNat + 1 := by omega
  have hgw : gap + 1 = ((gap.toNat + 1 : Nat) : Int) := by omega
  have ewh : whole songs gap = ((songs.length / (gap.toNat + 1) : Nat) : Int) := by unfold whole; rw [hgw]; rfl
  have ers : rest songs gap = ((songs.length % (gap.toNat + 1) : Nat) : Int) := by unfold rest; rw [hgw]; rfl
  generalize hX : os.map (atS songs) = X at *
  have lX : X.length = songs.length := pX.length_eq
  have dm := Nat.div_add_mod songs.length (gap.toNat + 1)
  have rl := Nat.mod_lt songs.length hw
  generalize hr : songs.length % (gap.toNat + 1) = r at *
  generalize hq : songs.length / (gap.toNat + 1) = q at *
  have c2 : ∀ s, (X.drop r).count s ≤ q := fun s => (ap.drop r).many (by rw [List.length_drop, Nat.mul_comm]; omega)
  have cs : ∀ s, songs.count s = (X.take r).count s + (X.drop r).count s := fun s => by
    rw [← List.count_append, List.take_append_drop]
    exact (pX.count_eq s).symm
  unfold barsP at hb
  by_cases h1 : ss = [] ∨ rising ss = false
  · rw [if_pos h1] at hb; cases hb
  rw [if_neg h1] at hb
  by_cases h2 : ss.length = 1 ∧ (songs.count (ss.headD 0) : Int) > most songs gap
  · have a := h2.2
    unfold most at a
    rw [ewh, ers] at a
    have b := cs (ss.headD 0)
    have c := c2 (ss.headD 0)
    by_cases hr0 : r = 0
    · subst hr0
      rw [if_neg (by omega)] at a
      rw [List.take_zero, List.count_nil] at b
      omega
    · rw [if_pos (by omega)] at a
      have d := (ap.take r).one (by rw [List.length_take]; omega) (ss.headD 0)
      omega
  · rw [if_neg h2, Bool.and_eq_true] at hb
    obtain ⟨g1, g2⟩ := hb
    obtain ⟨g3, g4⟩ := of_decide_eq_true g1
    rw [ers] at g3 g4
    have hri : rising ss = true := by
      cases e : rising ss with
      | true => rfl
      | false => exact absurd (.inr e) h1
    have := sub_len (xs := ss) (ys := X.take r) ((pw_of hri).imp fun {a b} h => by omega) fun s hs => by
      have a := of_decide_eq_true (List.all_eq_true.mp g2 s hs)
      rw [ewh] at a
      have b := cs s
      have c := c2 s
      exact List.count_pos_iff.mp (by omega)
    rw [List.length_take] at this
    omega
/-! #### keeping, by the least gap -/
def keepsP (songs os : List Int) (gap : Int) : Bool := match least (pick (singles songs) os) with
  | none => true
  | some m => decide (m ≥ gap)
theorem diffs_pw {gap : Int} (hg : 0 ≤ gap) : ∀ {l : List Int}, (∀ x ∈ diffs l, gap ≤ x) ↔ l.Pairwise fun a b => gap < b - a
  | [] => ⟨fun _ => .nil, fun _ x h => by cases h⟩
  | [a] => ⟨fun _ => List.pairwise_singleton _ _, fun _ x h => by cases h⟩
  | a :: b :: r => by
    have ih := diffs_pw hg (l := b :: r)
    have e : diffs (a :: b :: r) = (b - a - 1) :: diffs (b :: r) := rfl
    rw [e]
    constructor
    · intro h
      have h1 := h (b - a - 1) (by simp)
      have h2 := ih.mp fun x hx => h x (by simp [hx])
      refine List.pairwise_cons.mpr ⟨fun y hy => ?_, h2⟩
      rcases List.mem_cons.mp hy with q | q
      · rw [q]; omega
      · have := (List.pairwise_cons.mp h2).1 y q
        omega
    · intro h x hx
      obtain ⟨p1, p2⟩ := List.pairwise_cons.mp h
      rcases List.mem_cons.mp hx with q | q
      · have := p1 b (by simp)
        omega
      · exact ih.mpr p2 x q
theorem pick_nodup (songs os : List Int) : ∀ r ∈ pick (singles songs) os, r.Nodup := fun r hr => by
  obtain ⟨o, _, rfl⟩ := List.mem_map.mp hr
  show ((singles songs).getD o.toNat []).Nodup
  rw [List.getD_eq_getElem?_getD]
  unfold singles
  rw [List.getElem?_map]
  cases songs[o.toNat]? with
  | none => exact List.nodup_nil
  | some s => simp
theorem pick_at {songs os : List Int} (hi : InB songs.length os) {i : Nat} {s : Int} : s ∈ (pick (singles songs) os).getD i [] ↔ ∃ x, os[i]? = some x ∧ atS songs x = s := by
  unfold pick
  rw [List.getD_eq_getElem?_getD, List.getElem?_map]
  cases e : os[i]? with
  | none => simp
  | some x =>
    have hx := hi x (List.mem_of_getElem? e)
    show s ∈ (singles songs).getD x.toNat [] ↔ _
    rw [singles_getD (by omega), List.mem_singleton]
    constructor
    · intro h; exact ⟨x, rfl, h.symm⟩
    · rintro ⟨y, hy, h⟩
      rw [← Option.some.inj hy] at h
      exact h.symm
theorem keeps_iff {songs os : List Int} {gap : Int} (hg : 0 ≤ gap) (hi : InB songs.length os) : keepsP songs os gap = true ↔ Spc songs os gap := by
  have h2 := (lb_spec (pick (singles songs) os) (pick_nodup songs os)).2
  have e1 : keepsP songs os gap = true ↔ ∀ x ∈ (lb (pick (singles songs) os)).1, gap ≤ x := by
    unfold keepsP least
    cases e : minO (lb (pick (singles songs) os)).1 with
    | none =>
      rw [minO_none] at e
      rw [e]
      exact ⟨fun _ x hx => (nomatch hx), fun _ => rfl⟩
    | some m =>
      obtain ⟨m1, m2⟩ := minO_some e
      show decide (m ≥ gap) = true ↔ _
      rw [decide_eq_true_eq]
      exact ⟨fun h x hx => Int.le_trans h (m2 x hx), fun h => h m m1⟩
  have lp : (pick (singles songs) os).length = os.length := List.length_map _
  rw [e1]
  constructor
  · intro h i j x y hij hx hy hxy
    have pw := (diffs_pw hg (l := spots (atS songs x) (pick (singles songs) os))).mp fun d hd => h d ((h2 d).mpr ⟨_, hd⟩)
    have mi : (i : Int) ∈ spots (atS songs x) (pick (singles songs) os) := spots_mem.mpr ⟨i, by rw [lp]; exact (List.getElem?_eq_some_iff.mp hx).1, (pick_at hi).mpr ⟨x, hx, rfl⟩, rfl⟩
    have mj : (j : Int) ∈ spots (atS songs x) (pick (singles songs) os) := spots_mem.mpr ⟨j, by rw [lp]; exact (List.getElem?_eq_some_iff.mp hy).1, (pick_at hi).mpr ⟨y, hy, hxy.symm⟩, rfl⟩
    have srt := spots_sorted (atS songs x) (pick (singles songs) os)
    obtain ⟨a, ha, ea⟩ := List.mem_iff_getElem.mp mi
    obtain ⟨b, hb, eb⟩ := List.mem_iff_getElem.mp mj
    have hab : a < b := by
      rcases Nat.lt_trichotomy a b with z | z | z
      · exact z
      · subst z; rw [ea] at eb; omega
      · have := List.pairwise_iff_getElem.mp srt b a hb ha z
        rw [ea, eb] at this
        omega
    have := List.pairwise_iff_getElem.mp pw a b ha hb hab
    rw [ea, eb] at this
    exact this
  · intro hS x hx
    obtain ⟨s, hs⟩ := (h2 x).mp hx
    refine (diffs_pw hg (l := spots s (pick (singles songs) os))).mpr ?_ x hs
    refine List.Pairwise.imp_of_mem (fun {a b} ha hb h => ?_) (spots_sorted s _)
    obtain ⟨i, hi1, hi2, rfl⟩ := spots_mem.mp ha
    obtain ⟨j, hj1, hj2, rfl⟩ := spots_mem.mp hb
    obtain ⟨x1, e1, e2⟩ := (pick_at hi).mp hi2
    obtain ⟨y1, e3, e4⟩ := (pick_at hi).mp hj2
    exact hS i j x1 y1 (by omega) e1 e3 (by rw [e2, e4])
/-! #### widest -/
def twice (songs : List Int) : Bool := songs.any fun s => decide (songs.count s > 1)
def wid (songs : List Int) : Nat → Int → Int
  | 0, g => g
  | f + 1, g => if barring songs (g + 1) = none then wid songs f (g + 1) else g
def widest (songs : List Int) : Option Int := if twice songs = true then some (wid songs songs.length 0) else none
theorem barring_zero {songs : List Int} (hs : SgOk songs) : barring songs 0 = none := by
  cases e : barring songs 0 with
  | none => rfl
  | some ss =>
    have hb := barring_bars e
    exact absurd (fun i j x y hij _ _ _ => by omega) (bars_no (Int.le_refl 0) hb (List.Perm.refl (upto songs.length)))
theorem barring_far {songs : List Int} {gap : Int} (hs : SgOk songs) (h : twice songs = true) (hg : (songs.length : Int) ≤ gap) : barring songs gap ≠ none := fun e => by
  obtain ⟨b1, _⟩ := barring_none (by omega) hs e
  obtain ⟨s, m, c⟩ := List.any_eq_true.mp h
  have c := of_decide_eq_true c
  have a := b1 s m
  unfold most whole at a
  rw [Int.ediv_eq_zero_of_lt (by omega) (by omega)] at a
  split at a <;> omega
theorem wid_spec {songs : List Int} (hs : SgOk songs) (h : twice songs = true) : ∀ (f : Nat) (g : Int), 0 ≤ g → (songs.length : Int) ≤ g + f → (∀ k, 0 ≤ k → k ≤ g → barring songs k = none) →
    g ≤ wid songs f g ∧ (∀ k, 0 ≤ k → k ≤ wid songs f g → barring songs k = none) ∧ barring songs (wid songs f g + 1) ≠ none ∧ wid songs f g ≤ g + f
  | 0, g, h0, hl, hk => ⟨Int.le_refl _, hk, barring_far hs h (show (songs.length : Int) ≤ g + 1 by omega), by show g ≤ g + _; omega⟩
  | f + 1, g, h0, hl, hk => by
    unfold wid
    by_cases c : barring songs (g + 1) = none
    · rw [if_pos c]
      obtain ⟨i1, i2, i3, i4⟩ := wid_spec hs h f (g + 1) (by omega) (by omega) fun k k0 k1 => by
        by_cases e : k = g + 1
        · rw [e]; exact c
        · exact hk k k0 (by omega)
      exact ⟨by omega, i2, i3, by omega⟩
    · rw [if_neg c]
      exact ⟨Int.le_refl _, hk, c, by omega⟩
theorem widest_spec {songs : List Int} (hs : SgOk songs) {g : Int} (h : widest songs = some g) : 0 ≤ g ∧ g ≤ songs.length ∧ barring songs g = none ∧ barring songs (g + 1) ≠ none := by
  unfold widest at h
  by_cases t : twice songs = true
  · rw [if_pos t] at h
    have h := Option.some.inj h
    obtain ⟨a, b, c, d⟩ := wid_spec hs t songs.length 0 (Int.le_refl _) (by omega) fun k k0 k1 => by
      rw [show k = 0 by omega]; exact barring_zero hs
    rw [h] at a b c d
    exact ⟨a, by omega, b g a (Int.le_refl _), c⟩
  · rw [if_neg t] at h; cases h
end Song

/-! ### Gw4: counts, who bars, keeps -/
namespace Song
open PySem L2
section
variable {P : Program} {w : World} {K : PySem.W.Frag} {mg : Str → Option Value} {base : Heap}
theorem sc_counts_of : FnScope ["songs", "found", "singer"] ["songs"] (defScope s_counts_of) := ⟨rfl, rfl, rfl, by decide +kernel, rfl, by decide +kernel, by decide +kernel⟩
def sp_counts_of (K : PySem.W.Frag) : Sp := fun vs H Q _ => ∃ (a : Addr) (songs : List Int), vs = [.ref a] ∧ SqL K H a (songs.map V.int) ∧ songs.length ≤ 900 ∧ ∀ d H', H d = none → Same H H' → H' d = some (.dK (toK (countsOf songs))) → Q (.ref d) H'
theorem countsOf_len (songs : List Int) : (countsOf songs).length ≤ songs.length := by
  refine snoc_ind (P := fun songs => (countsOf songs).length ≤ songs.length) (Nat.le_refl _) (fun l a ih => ?_) songs
  rw [countsOf_snoc, List.length_append, List.length_singleton]
  have := putC_len (countsOf l) a ((getC (countsOf l) a).getD 0 + 1)
  omega
theorem getD_int (o : Option Int) : ((o.map V.int).getD (.int 0)) = V.int (o.getD 0) := by cases o <;> rfl
theorem fn_counts_of (T : Tx K mg) : Fn P w K mg base "counts_of" 1 (sp_counts_of K) := by
  obtain ⟨fd, F⟩ := T.d_counts_of
  refine ⟨_, fd, _, F.ok (CX := CX0) sc_counts_of (fun vs H Q E h => ?_) (fun cdv A outer s H vs Q E hr h => ?_), T.g_counts_of, F.kp, F.bindsN fun _ _ _ _ _ _ us hl => match us, hl with | [_], _ => rfl⟩
  · obtain ⟨a, songs, rfl, _⟩ := h; rfl
  · obtain ⟨a, songs, rfl, ha, hl, q⟩ := h
    refine ⟨_, PSs.nox (pss_cons (ps_set (i := 1) sc_counts_of.nd rfl (by first | exact Or.inl rfl | exact Or.inr rfl) pe_dnewK)
      (pss_cons (ps_for PassesOwn.never rfl (show PI _ _ _ (iList K _) from pi_list (pv 0)) (pg_name (i := 2) sc_counts_of.nd rfl (by first | exact Or.inl rfl | exact Or.inr rfl))
      (pss_one (ps_dput (hu_of hr) (pv 1) (pv 2) (pe_op op_add (pe_dget2 (hu_of hr) (pv 1) (pv 2) pe_int ⟨by rfl, by rfl, by rfl, by rfl⟩) pe_int) rfl)))
      (pss_one (ps_ret (pv 1))))), ?_⟩
    intro d nd
    refine to_new nd fun H1 s1 hd => ?_
    refine ⟨_, rfl, a, rfl, ⟨_, s1.seq ha⟩, for_list (K := K) (a := a) (xs := songs.map V.int) (fun i σ H' => ∃ x2 : Option V, σ = [some (.ref a), some (.ref d), x2] ∧ Fra [d] H1 H' ∧ H' d = some (.dK (toK (countsOf (songs.take i))))) ?_ ?_ ?_ ?_⟩
    · exact ⟨_, rfl, Fra.refl _ _, hd⟩
    · rintro i σ G _ ⟨_, _, f, _⟩
      exact (f.back s1 (fun x hx => by rw [List.mem_singleton.mp hx]; exact nd)).seq ha
    · rintro i v σ G hv ⟨x2, rfl, f, hG⟩
      obtain ⟨s, rfl, hs⟩ := int_at hv
      have hi : i < songs.length := (List.getElem?_eq_some_iff.mp hs).1
      have cl := countsOf_len (songs.take i)
      rw [List.length_take] at cl
      refine ⟨_, rfl, d, rfl, .inl ⟨_, .inl hG⟩, _, rfl, _, DGet.k (k := Sum.inl s) hG, ?_⟩
      rw [valV_toK, getD_int]
      refine ⟨_, _, rfl, rfl, _, rfl, _, rfl, d, _, rfl, DPut.k (k := Sum.inl s) hG (by rw [toK_len]; exact lt_line (by omega)), ?_⟩
      rw [putK_toK]
      refine to_put fun G1 f1 h1 => ?_
      refine ⟨_, rfl, f.trans f1, ?_⟩
      obtain ⟨hlt, e⟩ := List.getElem?_eq_some_iff.mp hs
      rw [List.take_succ_eq_append_getElem hlt, e, countsOf_snoc]
      exact h1
    · rintro σ G ⟨x2, rfl, f, hG⟩
      rw [List.length_map, List.take_length] at hG
      exact ⟨_, rfl, q d G nd (f.back s1 (fun x hx => by rw [List.mem_singleton.mp hx]; exact nd)) hG⟩
theorem counts_at {H : Hp} {d : Addr} {songs : List Int} (h : H d = some (.dK (toK (countsOf songs)))) (s : Int) : ∃ o, DGet H d (.int s) o ∧ o.getD (.int 0) = V.int (songs.count s : Int) := by
  refine ⟨_, DGet.k (k := Sum.inl s) h, ?_⟩
  rw [valV_toK, getD_int, counts_getD]
theorem counts_in {H : Hp} {d : Addr} {songs : List Int} (h : H d = some (.dK (toK (countsOf songs)))) {s : Int} (hs : s ∈ songs) : DGet H d (.int s) (some (V.int (songs.count s : Int))) :=
  getC_get h (by rw [counts_get, if_pos hs])
/-- a gap that the machine can divide by -/
def GapOk (gap : Int) : Prop := 0 ≤ gap ∧ gap < 2 ^ 100
theorem GapOk.log {gap : Int} (h : GapOk gap) : (gap + 1).natAbs.log2 < 9000 := by
  have h1 := h.2
  have h2 := h.1
  refine Nat.lt_of_lt_of_le ((Nat.log2_lt (k := 101) (by omega)).mpr ?_) (by decide)
  have : (gap + 1).natAbs ≤ 2 ^ 100 := by omega
  exact Nat.lt_of_le_of_lt this (by decide)
theorem sc_bars : FnScope ["songs", "gap", "singers", "counts", "whole", "rest", "most", "one", "other"] ["songs", "gap", "singers"] (defScope s_bars) := ⟨rfl, rfl, rfl, by decide +kernel, rfl, by decide +kernel, by decide +kernel⟩
def sp_bars (K : PySem.W.Frag) : Sp := fun vs H Q _ => ∃ (a b : Addr) (songs ss : List Int) (gap : Int), vs = [.ref a, .int gap, .ref b] ∧ SqL K H a (songs.map V.int) ∧ songs.length ≤ 900 ∧ GapOk gap ∧ SqL K H b (ss.map V.int) ∧ ss.length ≤ 900 ∧ ∀ H', Same H H' → Q (.bl (barsP songs gap ss)) H'
theorem zipGe_all : ∀ ns : List Int, ((ns.zip (ns.drop 1)).map fun p => decide (p.1 ≥ p.2)).any id = !rising ns
  | [] => rfl
  | [_] => rfl
  | a :: b :: r => by
    have ih := zipGe_all (b :: r)
    unfold rising
    simp only [List.drop_succ_cons, List.drop_zero, List.zip_cons_cons, List.map_cons, List.any_cons, id] at ih ⊢
    rw [ih, Bool.not_and]
    congr 1
    by_cases h : a < b
    · rw [decide_eq_true h, decide_eq_false (by omega)]; rfl
    · rw [decide_eq_false h, decide_eq_true (by omega)]; rfl
theorem zipGe_vals (ns : List Int) : (List.range (min (ns.map V.int).length ((ns.drop 1).map V.int).length)).filterMap (fun i => ((ns.zip (ns.drop 1))[i]?).map fun p => V.bl (decide (p.1 ≥ p.2))) = ((ns.zip (ns.drop 1)).map fun p => decide (p.1 ≥ p.2)).map V.bl := by
  have e : min (ns.map V.int).length ((ns.drop 1).map V.int).length = (ns.zip (ns.drop 1)).length := by simp
  rw [e, range_map, List.map_map]
  rfl
theorem fn_bars (T : Tx K mg) : Fn P w K mg base "bars" 2 (sp_bars K) := by
  obtain ⟨fd, F⟩ := T.d_bars
  refine ⟨_, fd, _, F.ok (CX := CX0) sc_bars (fun vs H Q E h => ?_) (fun cdv A outer s H vs Q E hr h => ?_), T.g_bars, F.kp, F.bindsN fun _ _ _ _ _ _ us hl => match us, hl with | [_, _, _], _ => rfl⟩
  · obtain ⟨a, b, songs, ss, gap, rfl, _⟩ := h; rfl
  · obtain ⟨a, b, songs, ss, gap, rfl, ha, hl, hg, hb, hsl, q⟩ := h
    refine ⟨_, PSs.nox (pss_cons (ps_asg (pe_tup (pa_cons (pe_fn (fn_counts_of T) (hr.mono (by first | decide | omega)) (by rfl) (pa_cons (pv 0) pa_nil)) (pa_cons (pe_op op_fdivW (pe_callB (show CallR _ _ (rLenQ K) from call_len_seq) (by rfl) T.len (by decide +kernel) (pa_cons (pv 0) pa_nil)) (pe_op op_add (pv 1) pe_int)) (pa_cons (pe_op op_mod (pe_callB (show CallR _ _ (rLenQ K) from call_len_seq) (by rfl) T.len (by decide +kernel) (pa_cons (pv 0) pa_nil)) (pe_op op_add (pv 1) pe_int)) pa_nil)))) (show PG _ _ (gTup K _ _) from pg_tup rfl (pgs_cons (pg_name (i := 3) sc_bars.nd rfl (by first | exact Or.inl rfl | exact Or.inr rfl)) (pgs_cons (pg_name (i := 4) sc_bars.nd rfl (by first | exact Or.inl rfl | exact Or.inr rfl)) (pgs_cons (pg_name (i := 5) sc_bars.nd rfl (by first | exact Or.inl rfl | exact Or.inr rfl)) pgs_nil)))))
      (pss_cons (ps_set (i := 6) sc_bars.nd rfl (by first | exact Or.inl rfl | exact Or.inr rfl) (pe_op op_add (pv 4) (pe_callTy call_int1 (by rfl) T.int (by decide +kernel) (pa_cons (pe_cmpR op_gt (pv 5) pe_int (nomark _)) pa_nil))))
      (pss_cons (ps_if (PW.pt (pw_or (pt_cmpR (show OpR _ _ (rEqD K) from op_eqD hr.units) (pv 2) (pe_lst pa_nil) (nomark _)) (pw_or1 (pt_val (pe_callB (show CallR _ _ (rAny K) from cr_any (by rfl)) (by rfl) T.any (by decide +kernel) (pa_cons (pe_lc (own := [("one", 7), ("other", 8)]) (g := (gTup K 2 (gCons (gName 7) (gCons (gName 8) gNil)))) (tt := tYes) (by rfl) sc_bars.nd (show PI _ _ _ (iZip K _) from pi_zip (by rfl) T.zip (pa_cons (pv 2) (pa_cons (pe_slice (show SlR _ (rSlL K) from sl_list) (pv 2) (po_some pe_int) po_none) pa_nil))) (blkOk_by (by kernel_rfl)) (fun _ _ _ _ _ => (show PG _ _ (gTup K _ _) from pg_tup rfl (pgs_cons (pg_name (i := 7) sc_bars.nd rfl (by first | exact Or.inl rfl | exact Or.inr rfl)) (pgs_cons (pg_name (i := 8) sc_bars.nd rfl (by first | exact Or.inl rfl | exact Or.inr rfl)) pgs_nil)))) (fun _ _ _ _ _ => pts_nil) (fun _ _ _ _ _ => (pe_cmpR op_ge (pv 7) (pv 8) (nomark _)))) pa_nil)))))) (pss_one (ps_ret pe_bl)) pss_nil)
      (pss_cons (ps_cut (ps_if (PW.pt (pw_and (pt_cmpR op_eq (pe_callB (show CallR _ _ (rLenQ K) from call_len_seq) (by rfl) T.len (by decide +kernel) (pa_cons (pv 2) pa_nil)) pe_int (nomark _)) (pw_and1 (pt_cmpR op_gt (pe_dget2 (hu_of hr) (pv 3) (pe_ix (show IxR _ (rIxL K) from ix_list) (pv 2) pe_int (fun _ _ => rfl)) pe_int ⟨by rfl, by rfl, by rfl, by rfl⟩) (pv 6) (nomark _))))) (pss_one (ps_ret pe_bl)) pss_nil))
      (pss_one (ps_ret (pe_and (pe_chain op_lt op_lt pe_int (pv 5) (pe_callB (show CallR _ _ (rLenQ K) from call_len_seq) (by rfl) T.len (by decide +kernel) (pa_cons (pv 2) pa_nil))) (pe_one (pe_callB (show CallR _ _ (rAll K) from cr_all (by rfl)) (by rfl) T.all (by decide +kernel) (pa_cons (pe_lc (own := [("one", 7)]) (g := (gName 7)) (tt := tYes) (by rfl) sc_bars.nd (show PI _ _ _ (iList K _) from pi_list (pv 2)) (blkOk_by (by kernel_rfl)) (fun _ _ _ _ _ => (pg_name (i := 7) sc_bars.nd rfl (by first | exact Or.inl rfl | exact Or.inr rfl))) (fun _ _ _ _ _ => pts_nil) (fun _ _ _ _ _ => (pe_cmpR op_gt (pe_dget2 (hu_of hr) (pv 3) (pv 7) pe_int ⟨by rfl, by rfl, by rfl, by rfl⟩) (pv 4) (nomark _)))) pa_nil)))))))))), ?_⟩
    have hg0 := hg.1
    refine ⟨_, rfl, a, songs, rfl, ha, hl, fun d H1 nd s1 hd => ?_⟩
    refine ⟨_, rfl, a, _, rfl, .inl (s1.seq ha), _, rfl, _, _, rfl, rfl, _, _, rfl, rfl, ⟨by omega, hg.log⟩, ?_⟩
    refine ⟨_, rfl, a, _, rfl, .inl (s1.seq ha), _, rfl, _, _, rfl, rfl, _, _, rfl, rfl, (show 0 < gap + 1 by omega), ?_⟩
    refine ⟨by show 3 ≤ sizeLine; decide, fun t nt => ?_⟩
    refine to_new nt fun H2 s2 ht => ?_
    rw [List.length_map] at ht
    refine ⟨t, _, rfl, SqT.of ht, rfl, _, _, rfl, _, _, rfl, _, _, rfl, rfl, ?_⟩
    refine ⟨_, rfl, _, rfl, _, _, rfl, rfl, .inr ⟨_, rfl, _, _, rfl, rfl, ?_⟩⟩
    have em : (songs.length : Int) / (gap + 1) + (if decide ((songs.length : Int) % (gap + 1) > 0) = true then 1 else 0) = most songs gap := by
      unfold most whole rest
      by_cases c : (songs.length : Int) % (gap + 1) > 0
      · rw [decide_eq_true c, if_pos rfl, if_pos c]
      · rw [decide_eq_false c, if_neg (by decide), if_neg c]
    have s12 := s1.trans s2
    have hb2 := s12.seq hb
    have hd2 := s2 _ _ hd
    refine ⟨_, rfl, Nat.zero_le _, fun z nz => ?_⟩
    refine to_new nz fun H3 s3 hz => ?_
    refine ⟨_, _, dp_ints (s3.seq hb2), .lst (SqL.of hz) .nil, (shp_ints _).ok, shp_nil.ok, _, rfl, ?_⟩
    rw [eqv_nil]
    have s13 := s12.trans s3
    by_cases hne : ss = []
    · have e0 : barsP songs gap ss = false := by unfold barsP; rw [if_pos (.inl hne)]
      rw [e0] at q
      rw [show ss.isEmpty = true by rw [hne]; rfl]
      exact iteT (iteT (q _ s13))
    rw [show ss.isEmpty = false by cases hss : ss with | nil => exact absurd hss hne | cons x r => rfl]
    have hb3 := s13.seq hb
    refine iteF ⟨_, rfl, _, rfl, _, rfl, b, _, rfl, hb3, fun p np => ?_⟩
    refine to_new np fun H4 s4 hp => ?_
    rw [cut1] at hp
    refine ⟨b, p, _, _, rfl, s4.seq hb3, SqL.of hp, fun D nD => lc_pure (walk_zip rfl) sqL2_mono ⟨s4.seq hb3, SqL.of hp⟩ (fun i => ((ss.zip (ss.drop 1))[i]?).map fun p => V.bl (decide (p.1 ≥ p.2))) nD (by simp; omega) ?_ ?_⟩
    · rintro i v H5 H6 hi s5 ⟨t, x, y, rfl, nt, rfl, hx, hy⟩ k kn hk _
      obtain ⟨n, rfl, hn⟩ := int_at hx
      obtain ⟨m, rfl, hm⟩ := int_at hy
      refine ⟨t, _, rfl, SqT.of upd_same, rfl, _, _, rfl, _, _, rfl, rfl, rfl, yes_of ?_⟩
      refine ⟨_, rfl, _, rfl, _, _, rfl, rfl, ?_⟩
      refine hk _ _ ?_ (Same.new nt)
      have e : (ss.zip (ss.drop 1))[i]? = some (n, m) := by rw [List.getElem?_zip_eq_some]; exact ⟨hn, hm⟩
      rw [e]
      rfl
    · intro H5 s5 hD
      rw [zipGe_vals] at hD
      refine ⟨_, _, rfl, SqL.of hD, _, rfl, ?_⟩
      rw [zipGe_all]
      have s15 := s13.trans (s4.trans s5)
      cases hri : rising ss with
      | false =>
        have e0 : barsP songs gap ss = false := by unfold barsP; rw [if_pos (.inr hri)]
        rw [e0] at q
        exact iteT (q _ s15)
      | true =>
        have hb5 := s15.seq hb
        have hd5 := (s2.trans (s3.trans (s4.trans s5))) _ _ hd
        have hd5' : H5 d = some (.dK (toK (countsOf songs))) := (s3.trans (s4.trans s5)) _ _ hd2
        have ehd : ss.headD 0 = ss.getD 0 0 := by
          cases ss with
          | nil => exact absurd rfl hne
          | cons x r => rfl
        have hn1 : ¬ (ss = [] ∨ rising ss = false) := by rw [hri]; simp [hne]
        obtain ⟨o, ho, eo⟩ := counts_at hd5' (ss.getD 0 0)
        have l0 : 0 < ss.length := List.length_pos_iff.mpr hne
        have fin : ¬ (ss.length = 1 ∧ (songs.count (ss.headD 0) : Int) > most songs gap) → barsP songs gap ss = (decide (0 < rest songs gap ∧ rest songs gap < (ss.length : Int)) && ss.all fun s => decide ((songs.count s : Int) > whole songs gap)) := fun h => by
          unfold barsP
          rw [if_neg hn1, if_neg h]
        have cond : (decide (V.int (ss.length : Nat) = V.int 1)) = decide (ss.length = 1) := by
          by_cases e : ss.length = 1
          · rw [decide_eq_true e, decide_eq_true (by rw [e]; rfl)]
          · rw [decide_eq_false e, decide_eq_false (fun z => e (by injection z; omega))]
        refine iteF ⟨fun σ' H' => ¬ (ss.length = 1 ∧ (songs.count (ss.headD 0) : Int) > most songs gap) ∧ H' = H5 ∧ ∃ x6, σ' = [some (.ref a), some (.int gap), some (.ref b), some (.ref d), some (.int ((songs.length : Int) / (gap + 1))), some (.int ((songs.length : Int) % (gap + 1))), x6, none, none], ?_, ?_⟩
        · refine ⟨_, rfl, b, _, rfl, .inl hb5, rfl, _, rfl, ?_⟩
          rw [List.length_map, cond]
          by_cases h1 : ss.length = 1
          case neg =>
            rw [decide_eq_false h1]
            exact iteF (iteF ⟨fun z => h1 z.1, rfl, _, rfl⟩)
          rw [decide_eq_true h1]
          refine iteT ⟨_, rfl, d, rfl, .inl ⟨_, .inl hd5'⟩, _, rfl, b, _, _, _, rfl, rfl, hb5, at_int (ls := ss) (by decide) (by omega), o, ho, _, rfl, _, _, eo, rfl, _, rfl, ?_⟩
          rw [em]
          by_cases h2 : (songs.count (ss.getD 0 0) : Int) > most songs gap
          · rw [decide_eq_true h2]
            have e1 : barsP songs gap ss = true := by
              unfold barsP
              rw [if_neg hn1, if_pos ⟨h1, by rw [ehd]; exact h2⟩]
            rw [e1] at q
            exact iteT (q _ s15)
          · rw [decide_eq_false h2]
            exact iteF ⟨fun z => h2 (by rw [← ehd]; exact z.2), rfl, _, rfl⟩
        · rintro σ' H' ⟨hno, rfl, x6, rfl⟩
          rw [fin hno] at q
          refine ⟨_, rfl, _, _, rfl, rfl, _, rfl, ?_⟩
          have er : (songs.length : Int) % (gap + 1) = rest songs gap := rfl
          have ew : (songs.length : Int) / (gap + 1) = whole songs gap := rfl
          by_cases r0 : 0 < rest songs gap
          case neg =>
            rw [decide_eq_false (show ¬ (0 < (songs.length : Int) % (gap + 1)) from r0)]
            rw [decide_eq_false (fun z => r0 z.1)] at q
            exact iteF ⟨_, rfl, iteF (q _ s15)⟩
          rw [decide_eq_true (show (0 < (songs.length : Int) % (gap + 1)) from r0)]
          refine iteT ⟨_, rfl, b, _, rfl, .inl hb5, _, _, rfl, rfl, _, rfl, ?_⟩
          rw [List.length_map]
          by_cases r1 : rest songs gap < (ss.length : Int)
          case neg =>
            rw [decide_eq_false (show ¬ ((songs.length : Int) % (gap + 1) < (ss.length : Int)) from r1)]
            rw [decide_eq_false (fun z => r1 z.2)] at q
            exact iteF (q _ s15)
          rw [decide_eq_true (show ((songs.length : Int) % (gap + 1) < (ss.length : Int)) from r1)]
          rw [decide_eq_true ⟨r0, r1⟩] at q
          refine iteT ⟨_, rfl, b, rfl, ⟨_, hb5⟩, fun D2 nD2 => lc_map (fun x => match x with | .int s => .bl (decide ((songs.count s : Int) > whole songs gap)) | _ => .non) hb5 nD2 (by rw [List.length_map]; omega) ?_ ?_ gname_mono⟩
          · intro i x H6 hx s6 k hk
            obtain ⟨s, rfl, hs⟩ := int_at hx
            obtain ⟨o2, ho2, eo2⟩ := counts_at (s6 _ _ hd5') s
            exact ⟨rfl, _, rfl, d, rfl, .inl ⟨_, .inl (s6 _ _ hd5')⟩, _, rfl, o2, ho2, _, rfl, _, _, eo2, rfl, hk _ (Same.refl _)⟩
          · intro H6 s6 hD2
            refine ⟨_, ss.map fun s => decide ((songs.count s : Int) > whole songs gap), rfl, SqL.of (by rw [hD2, List.map_map, List.map_map]; rfl), ?_⟩
            rw [List.all_map]
            exact q _ (s15.trans s6)
end
end Song

/-! ### Gw5: barring, keeps, turns_in -/
namespace Song
open PySem L2
theorem toK_keys (c : List (Int × Int)) : (toK c).map (·.1) = (keysC c).map Sum.inl := by
  unfold toK keysC
  rw [List.map_map, List.map_map]; rfl
theorem keys_few {songs : List Int} (h : SgOk songs) : (keysC (countsOf songs)).length < 64 := by
  obtain ⟨k1, k2⟩ := keys_counts songs
  have := nodup_len (n := 6) (ws := keysC (countsOf songs)) (fun s hs => h s ((k2 s).mp hs)) k1
  omega
theorem sng_len (songs : List Int) : (sng songs).length ≤ 6 := by
  unfold sng
  have := List.length_filter_le (fun s => decide (s ∈ songs)) (upto 6)
  rw [upto_len] at this
  exact this
def selF (ss : List Int) (f : Int → Bool) (i : Nat) : Option V := (ss[i]?).bind fun s => if f s = true then some (V.int s) else none
theorem selF_all (ss : List Int) (f : Int → Bool) : (List.range ss.length).filterMap (selF ss f) = (ss.filter f).map V.int := by
  have e : (List.range ss.length).filterMap (selF ss f) = ss.filterMap fun s => if f s = true then some (V.int s) else none := range_filterMap _ ss
  rw [e, ← List.filterMap_eq_map, List.filterMap_filter]
  rfl
section
variable {P : Program} {w : World} {K : PySem.W.Frag} {mg : Str → Option Value} {base : Heap}
theorem sc_barring : FnScope ["songs", "gap", "counts", "whole", "rest", "singer", "many"] ["songs", "gap"] (defScope s_barring) := ⟨rfl, rfl, rfl, by decide +kernel, rfl, by decide +kernel, by decide +kernel⟩
def sp_barring (K : PySem.W.Frag) : Sp := fun vs H Q _ => ∃ (a : Addr) (songs : List Int) (gap : Int), vs = [.ref a, .int gap] ∧ SqL K H a (songs.map V.int) ∧ songs.length ≤ 900 ∧ SgOk songs ∧ GapOk gap ∧
  (barring songs gap = none → ∀ H', Same H H' → Q .non H') ∧ ∀ ss, barring songs gap = some ss → ∀ b H', H b = none → Same H H' → H' b = some (.lst (ss.map V.int)) → Q (.ref b) H'
theorem fn_barring (T : Tx K mg) : Fn P w K mg base "barring" 3 (sp_barring K) := by
  obtain ⟨fd, F⟩ := T.d_barring
  refine ⟨_, fd, _, F.ok (CX := CX0) sc_barring (fun vs H Q E h => ?_) (fun cdv A outer s H vs Q E hr h => ?_), T.g_barring, F.kp, F.bindsN fun _ _ _ _ _ _ us hl => match us, hl with | [_, _], _ => rfl⟩
  · obtain ⟨a, songs, gap, rfl, _⟩ := h; rfl
  · obtain ⟨a, songs, gap, rfl, ha, hl, hs, hg, q0, q1⟩ := h
    refine ⟨_, PSs.nox (pss_cons (ps_asg (pe_tup (pa_cons (pe_fn (fn_counts_of T) (hr.mono (by first | decide | omega)) (by rfl) (pa_cons (pv 0) pa_nil)) (pa_cons (pe_op op_fdivW (pe_callB (show CallR _ _ (rLenQ K) from call_len_seq) (by rfl) T.len (by decide +kernel) (pa_cons (pv 0) pa_nil)) (pe_op op_add (pv 1) pe_int)) (pa_cons (pe_op op_mod (pe_callB (show CallR _ _ (rLenQ K) from call_len_seq) (by rfl) T.len (by decide +kernel) (pa_cons (pv 0) pa_nil)) (pe_op op_add (pv 1) pe_int)) pa_nil)))) (show PG _ _ (gTup K _ _) from pg_tup rfl (pgs_cons (pg_name (i := 2) sc_barring.nd rfl (by first | exact Or.inl rfl | exact Or.inr rfl)) (pgs_cons (pg_name (i := 3) sc_barring.nd rfl (by first | exact Or.inl rfl | exact Or.inr rfl)) (pgs_cons (pg_name (i := 4) sc_barring.nd rfl (by first | exact Or.inl rfl | exact Or.inr rfl)) pgs_nil)))))
      (pss_cons (ps_for PassesOwn.never rfl (show PI _ _ _ (iList K _) from pi_list (pe_callB (call_sortedDI (by rfl)) (by rfl) T.sorted (by decide +kernel) (pa_cons (pv 2) pa_nil))) (pg_name (i := 5) sc_barring.nd rfl (by first | exact Or.inl rfl | exact Or.inr rfl))
      (pss_one (ps_if (pt_val (pe_fn (fn_bars T) (hr.mono (by first | decide | omega)) (by rfl) (pa_cons (pv 0) (pa_cons (pv 1) (pa_cons (pe_lst (pa_cons (pv 5) pa_nil)) pa_nil))))) (pss_one (ps_ret (pe_lst (pa_cons (pv 5) pa_nil)))) pss_nil)))
      (pss_cons (ps_setLc (i := 6) (own := [("singer", 5)]) (g := (gName 5)) (tt := _) (by rfl) sc_barring.nd rfl rfl (sw_true rfl rfl rfl (by decide +kernel)) (show PI _ _ _ (iList K _) from pi_list (pe_callB (call_sortedDI (by rfl)) (by rfl) T.sorted (by decide +kernel) (pa_cons (pv 2) pa_nil))) (blkOk_by (by kernel_rfl)) (fun _ _ _ _ _ => (pg_name (i := 5) sc_barring.nd rfl (by first | exact Or.inl rfl | exact Or.inr rfl))) (fun _ _ _ _ _ => pts_one (pt_cmpR op_gt (pe_dget (hu_of hr) (pv 2) (pv 5) (fun _ _ => rfl)) (pv 3) (nomark _))) (fun _ _ _ _ _ => (pv 5)))
      (pss_one (ps_ret (pe_ifExp (pt_val (pe_fn (fn_bars T) (hr.mono (by first | decide | omega)) (by rfl) (pa_cons (pv 0) (pa_cons (pv 1) (pa_cons (pv 6) pa_nil))))) (pv 6) pe_non)))))), ?_⟩
    have hg0 := hg.1
    refine ⟨_, rfl, a, songs, rfl, ha, hl, fun d H1 nd s1 hd => ?_⟩
    refine ⟨_, rfl, a, _, rfl, .inl (s1.seq ha), _, rfl, _, _, rfl, rfl, _, _, rfl, rfl, ⟨by omega, hg.log⟩, ?_⟩
    refine ⟨_, rfl, a, _, rfl, .inl (s1.seq ha), _, rfl, _, _, rfl, rfl, _, _, rfl, rfl, (show 0 < gap + 1 by omega), ?_⟩
    refine ⟨by show 3 ≤ sizeLine; decide, fun t nt => ?_⟩
    refine to_new nt fun H2 s2 ht => ?_
    rw [List.length_map] at ht
    refine ⟨t, _, rfl, SqT.of ht, rfl, _, _, rfl, _, _, rfl, _, _, rfl, rfl, ?_⟩
    have s12 := s1.trans s2
    have hd2 := s2 _ _ hd
    have sl := sng_len songs
    refine ⟨_, rfl, d, _, keysC (countsOf songs), rfl, .inl hd2, toK_keys _, keys_few hs, fun ys p pm pw np => ?_⟩
    have eys := sng_of hs pm pw
    subst eys
    refine to_new np fun H3 s3 hp => ?_
    have s13 := s12.trans s3
    refine ⟨p, rfl, ⟨_, SqL.of hp⟩, for_list (K := K) (a := p) (xs := (sng songs).map V.int) (fun i σ H' => ∃ x5 : Option V, σ = [some (.ref a), some (.int gap), some (.ref d), some (.int ((songs.length : Int) / (gap + 1))), some (.int ((songs.length : Int) % (gap + 1))), x5, none] ∧ Same H3 H' ∧
      (sng songs).find? (fun s => barsP songs gap [s]) = ((sng songs).drop i).find? (fun s => barsP songs gap [s])) ?_ ?_ ?_ ?_⟩
    · exact ⟨_, rfl, Same.refl _, rfl⟩
    · rintro i σ G _ ⟨_, _, g, _⟩
      exact SqL.of (g _ _ hp)
    · rintro i v σ G hv ⟨x5, rfl, g, hf⟩
      obtain ⟨s, rfl, hsi⟩ := int_at hv
      have s1G := s13.trans g
      refine ⟨_, rfl, _, rfl, _, rfl, by show 1 ≤ sizeLine; decide, fun z nz => ?_⟩
      refine to_new nz fun G1 g1 hz => ?_
      have hdr : (sng songs).drop i = s :: (sng songs).drop (i + 1) := by
        obtain ⟨hlt, e⟩ := List.getElem?_eq_some_iff.mp hsi
        rw [List.drop_eq_getElem_cons hlt, e]
      rw [hdr] at hf
      refine ⟨a, z, songs, [s], gap, rfl, (s1G.trans g1).seq ha, hl, hg, SqL.of hz, by show 1 ≤ 900; decide, fun G2 g2 => ⟨_, rfl, ?_⟩⟩
      cases hB : barsP songs gap [s] with
      | true =>
        rw [List.find?_cons_of_pos (p := fun s => barsP songs gap [s]) hB] at hf
        have eb : barring songs gap = some [s] := by unfold barring; rw [hf]
        refine iteT ⟨_, rfl, by show 1 ≤ sizeLine; decide, fun b nb => ?_⟩
        have sG2 := s1G.trans (g1.trans g2)
        exact q1 [s] eb b _ (sG2.free nb) (sG2.trans (Same.new nb)) upd_same
      | false =>
        rw [List.find?_cons_of_neg (p := fun s => barsP songs gap [s]) (by rw [hB]; decide)] at hf
        exact iteF ⟨_, rfl, g.trans (g1.trans g2), hf⟩
    · rintro σ G ⟨x5, rfl, g, hf⟩
      rw [List.length_map, List.drop_length] at hf
      have hf : (sng songs).find? (fun s => barsP songs gap [s]) = none := hf
      have s1G := s13.trans g
      have hdG := (s3.trans g) _ _ hd2
      refine ⟨_, rfl, d, _, keysC (countsOf songs), rfl, .inl hdG, toK_keys _, keys_few hs, fun ys p2 pm2 pw2 np2 => ?_⟩
      have eys := sng_of hs pm2 pw2
      subst eys
      refine to_new np2 fun G1 g1 hp2 => ?_
      refine ⟨p2, rfl, ⟨_, SqL.of hp2⟩, fun D nD => lc_pure walk_list sqL_mono (SqL.of hp2) (selF (sng songs) fun s => decide ((songs.count s : Int) > whole songs gap)) nD (by rw [List.length_map]; omega) ?_ ?_⟩
      · rintro i x G2 G3 hi g2 ⟨rfl, hx⟩ k kn hk hkn
        obtain ⟨s, rfl, hsi⟩ := int_at hx
        have hsm : s ∈ songs := (mem_sng hs).mp (List.mem_of_getElem? hsi)
        refine ⟨rfl, _, rfl, _, rfl, d, _, rfl, counts_in ((g1.trans g2) _ _ hdG) hsm, _, rfl, _, _, rfl, rfl, _, rfl, ?_⟩
        by_cases c : (songs.count s : Int) > whole songs gap
        · rw [decide_eq_true (show (songs.count s : Int) > (songs.length : Int) / (gap + 1) from c)]
          refine iteT ⟨_, rfl, hk _ _ ?_ (Same.refl _)⟩
          unfold selF
          rw [hsi]
          show (if decide _ = true then _ else _) = _
          rw [decide_eq_true c, if_pos rfl]
        · rw [decide_eq_false (show ¬ (songs.count s : Int) > (songs.length : Int) / (gap + 1) from c)]
          refine iteF (hkn _ ?_ (Same.refl _))
          unfold selF
          rw [hsi]
          show (if decide _ = true then _ else _) = _
          rw [decide_eq_false c]; rfl
      · intro G2 g2 hD
        rw [List.length_map, selF_all] at hD
        have hD : G2 D = some (.lst ((full songs gap).map V.int)) := hD
        have fl : (full songs gap).length ≤ 6 := Nat.le_trans (List.length_filter_le _ _) sl
        have s1G2 := s1G.trans (g1.trans g2)
        refine ⟨_, rfl, _, rfl, _, rfl, a, D, songs, full songs gap, gap, rfl, s1G2.seq ha, hl, hg, SqL.of hD, by omega, fun G3 g3 => ⟨_, rfl, ?_⟩⟩
        cases hB : barsP songs gap (full songs gap) with
        | true =>
          have eb : barring songs gap = some (full songs gap) := by unfold barring; rw [hf]; exact if_pos hB
          exact iteT ⟨_, rfl, q1 _ eb D G3 ((s1G.trans g1).free nD) (s1G2.trans g3) (g3 _ _ hD)⟩
        | false =>
          have eb : barring songs gap = none := by unfold barring; rw [hf]; exact if_neg (by rw [hB]; decide)
          exact iteF (q0 eb _ (s1G2.trans g3))
theorem sc_keeps : FnScope ["songs", "order", "gap", "least"] ["songs", "order", "gap"] (defScope s_keeps) := ⟨rfl, rfl, rfl, by decide +kernel, rfl, by decide +kernel, by decide +kernel⟩
def sp_keeps (K : PySem.W.Frag) : Sp := fun vs H Q _ => ∃ (a b : Addr) (cs : List V) (R : List (List Int)) (os : List Int) (gap : Int), vs = [.ref a, .ref b, .int gap] ∧ SqL K H a cs ∧ Rows K H cs R ∧ (∀ r ∈ R, r.length ≤ 3) ∧ SqL K H b (os.map V.int) ∧ InB R.length os ∧ os.length ≤ 100 ∧
  ∀ H', Same H H' → Q (.bl (match least (pick R os) with | none => true | some m => decide (m ≥ gap))) H'
theorem fn_keeps (T : Tx K mg) : Fn P w K mg base "keeps" 2 (sp_keeps K) := by
  obtain ⟨fd, F⟩ := T.d_keeps
  refine ⟨_, fd, _, F.ok (CX := CX0) sc_keeps (fun vs H Q E h => ?_) (fun cdv A outer s H vs Q E hr h => ?_), T.g_keeps, F.kp, F.bindsN fun _ _ _ _ _ _ us hl => match us, hl with | [_, _, _], _ => rfl⟩
  · obtain ⟨a, b, cs, R, os, gap, rfl, _⟩ := h; rfl
  · obtain ⟨a, b, cs, R, os, gap, rfl, ha, hR, h3, hb, hi, hl, q⟩ := h
    refine ⟨_, PSs.nox (pss_cons (ps_set (i := 3) sc_keeps.nd rfl (by first | exact Or.inl rfl | exact Or.inr rfl) (pe_fn (fn_least_between T) (hr.mono (by first | decide | omega)) (by rfl) (pa_cons (pv 0) (pa_cons (pv 1) pa_nil))))
      (pss_one (ps_ret (pe_or (pe_cmpR op_isN (pv 3) pe_non (nomark _)) (pe_one (pe_cmpR op_ge (pv 3) (pv 2) (nomark _))))))), ?_⟩
    refine ⟨_, rfl, _, rfl, a, b, cs, R, os, rfl, ha, hR, h3, hb, hi, hl, fun H1 s1 => ?_⟩
    have z := q H1 s1
    refine ⟨_, rfl, rfl, _, rfl, ?_⟩
    cases e : least (pick R os) with
    | none =>
      rw [e] at z
      exact iteT z
    | some m =>
      rw [e] at z
      exact iteF ⟨_, rfl, _, rfl, _, _, rfl, rfl, z⟩
theorem sc_turns_in : FnScope ["many", "wide", "found", "rest"] ["many", "wide"] (defScope s_turns_in) := ⟨rfl, rfl, rfl, by decide +kernel, rfl, by decide +kernel, by decide +kernel⟩
def sp_turns_in : Sp := fun vs H Q _ => ∃ n k : Nat, vs = [.int n, .int k] ∧ 0 < k ∧ (k : Int) < 2 ^ 101 ∧ n ≤ 900 ∧ ∀ l H', H l = none → Same H H' → H' l = some (.lst ((turnsIn n k).map V.int)) → Q (.ref l) H'
theorem rg_cls {n k c : Nat} (hk : 0 < k) (hc : c < n) : Builtin.Range.rangeSize (c : Int) (n : Int) (k : Int) = (((n - c - 1) / k + 1 : Nat) : Int) := by
  unfold Builtin.Range.rangeSize
  rw [if_pos (by omega), if_pos (by omega), show (n : Int) - c - 1 = ((n - c - 1 : Nat) : Int) by omega]
  rfl
theorem rg_clsV (n k c : Nat) : rgVc (c : Int) (k : Int) ((n - c - 1) / k + 1) = (cls n k c).map V.int := by
  unfold rgVc cls
  rw [List.map_map]
  refine List.map_congr_left fun i _ => ?_
  show V.int _ = V.int _
  congr 1
theorem fn_turns_in (T : Tx K mg) : Fn P w K mg base "turns_in" 1 sp_turns_in := by
  obtain ⟨fd, F⟩ := T.d_turns_in
  refine ⟨_, fd, _, F.ok (CX := CX0) sc_turns_in (fun vs H Q E h => ?_) (fun cdv A outer s H vs Q E hr h => ?_), T.g_turns_in, F.kp, F.bindsN fun _ _ _ _ _ _ us hl => match us, hl with | [_, _], _ => rfl⟩
  · obtain ⟨n, k, rfl, _⟩ := h; rfl
  · obtain ⟨n, k, rfl, hk, hk2, hn, q⟩ := h
    refine ⟨_, PSs.nox (pss_cons (ps_set (i := 2) sc_turns_in.nd rfl (by first | exact Or.inl rfl | exact Or.inr rfl) (pe_lst pa_nil))
      (pss_cons (ps_for PassesOwn.never rfl (pi_range3 (by rfl) T.range (pa_cons (pe_op op_sub (pe_callB (call_min2 (by rfl)) (by rfl) T.min (by decide +kernel) (pa_cons (pv 1) (pa_cons (pv 0) pa_nil))) pe_int) (pa_cons (pe_un un_neg pe_int) (pa_cons (pe_un un_neg pe_int) pa_nil)))) (pg_name (i := 3) sc_turns_in.nd rfl (by first | exact Or.inl rfl | exact Or.inr rfl))
      (pss_one (ps_expr (show PE _ _ (tBM K _ _ _ _) from pe_bm PySem.F.plainAttrs_list PySem.F.slot_list_extend PySem.F.type_list_extend mt_extend (pv 2) (pa_cons (pe_listRg3 (by rfl) (by rfl) T.list (by rfl) T.range (pa_cons (pv 3) (pa_cons (pv 0) (pa_cons (pv 1) pa_nil)))) pa_nil)))))
      (pss_one (ps_ret (pv 2))))), ?_⟩
    refine ⟨Nat.zero_le _, fun l nl => ?_⟩
    refine to_new nl fun H1 s1 hl => ?_
    have em : (if (n : Int) < (k : Int) then (n : Int) else (k : Int)) = ((min k n : Nat) : Int) := by
      split <;> omega
    refine ⟨_, rfl, _, rfl, _, _, rfl, ?_⟩
    rw [em]
    generalize hm : min k n = m
    have m1 : m ≤ k := by omega
    have m2 : m ≤ n := by omega
    have et : turnsIn n k = Tn n k m := by unfold turnsIn; rw [hm]
    have rg : RgC ((m : Int) - 1) (-1) (-1) m := by
      have z := RgC.neg (i := (m : Int) - 1) (j := -1) (by omega) (by omega) (by decide) (by decide)
      rw [show ((m : Int) - 1 - -1).toNat = m by omega] at z
      exact z
    refine ⟨_, _, rfl, rfl, _, rfl, _, rfl, _, _, _, m, rfl, rg, for_rangeC (fun i σ H' => ∃ (x3 : Option V) (acc : List Int), σ = [some (.int n), some (.int k), some (.ref l), x3] ∧ Fra [l] H1 H' ∧ H' l = some (.lst (acc.map V.int)) ∧ acc ++ Tn n k (m - i) = Tn n k m) ?_ ?_ ?_⟩
    · exact ⟨_, [], rfl, Fra.refl _ _, hl, rfl⟩
    · rintro i σ G hi ⟨x3, acc, rfl, f, hG, hacc⟩
      obtain ⟨c, hc⟩ : ∃ c, m - i = c + 1 := ⟨m - i - 1, by omega⟩
      have ev : (m : Int) - 1 + (i : Int) * -1 = (c : Int) := by omega
      rw [ev]
      rw [hc] at hacc
      have lenT := Tn_len (n := n) hk m m1 m2
      have lt : (turnsIn n k).length = n := turns_len hk
      rw [et] at lt
      have la := congrArg List.length hacc
      rw [lt, List.length_append] at la
      have lc : (cls n k c).length ≤ n := by
        have : (Tn n k (c + 1)).length = (cls n k c).length + (Tn n k c).length := List.length_append
        omega
      have lcs := cls_len n k c
      refine ⟨_, rfl, .inl ⟨rfl, _, SqL.of hG⟩, _, rfl, _, rfl, _, rfl, _, _, _, _, rfl, by omega, PyProof.noPylong_of_log2 ?_, rg_cls hk (by omega), by omega, fun z nz => ?_⟩
      · refine Nat.lt_of_lt_of_le ((Nat.log2_lt (k := 101) (by omega)).mpr ?_) (by decide)
        have : ((k : Int)).natAbs = k := rfl
        rw [this]
        exact Int.ofNat_lt.mp hk2
      rw [rg_clsV]
      refine to_new nz fun G1 g1 hz => ?_
      refine ⟨l, z, _, _, rfl, rfl, g1 _ _ hG, hz, ?_, ?_⟩
      · rw [List.length_map, List.length_map]
        have := lt_line (n := acc.length + (cls n k c).length) (by
          have : (Tn n k (c + 1)).length = (cls n k c).length + (Tn n k c).length := List.length_append
          omega)
        omega
      refine to_put fun G2 f2 h2 => ?_
      refine ⟨_, acc ++ cls n k c, rfl, f.trans ((Fra.of g1).trans f2), by rw [List.map_append]; exact h2, ?_⟩
      rw [show m - (i + 1) = c by omega, List.append_assoc]
      exact hacc
    · rintro σ G ⟨x3, acc, rfl, f, hG, hacc⟩
      rw [Nat.sub_self] at hacc
      have e : acc = Tn n k m := by rw [← hacc]; exact (List.append_nil _).symm
      rw [e, ← et] at hG
      exact ⟨_, rfl, q l G nl (f.back s1 (fun x hx => by rw [List.mem_singleton.mp hx]; exact nl)) hG⟩
end
end Song

/-! ### Gw6: order_for, check_songs, the answers Spaced and Barred, spaced -/
namespace Song
open PySem L2
theorem barring_len {songs : List Int} {gap : Int} {ss : List Int} (h : barring songs gap = some ss) : ss.length ≤ 6 := by
  unfold barring at h
  cases e : (sng songs).find? fun s => barsP songs gap [s] with
  | some s => rw [e] at h; rw [← Option.some.inj h]; show 1 ≤ 6; decide
  | none =>
    rw [e] at h
    dsimp only at h
    split at h
    · rw [← Option.some.inj h]; exact Nat.le_trans (List.length_filter_le _ _) (sng_len songs)
    · cases h
theorem orderFor_len (songs : List Int) (gap : Int) : (orderFor songs gap).length = songs.length := by
  unfold orderFor
  rw [setAts_len, List.length_replicate]
section
variable {P : Program} {w : World} {K : PySem.W.Frag} {mg : Str → Option Value} {base : Heap}
theorem sc_order_for : FnScope ["songs", "gap", "counts", "whole", "few", "singer", "full", "places", "place", "one", "found", "turn"] ["songs", "gap"] (defScope s_order_for) := ⟨rfl, rfl, rfl, by decide +kernel, rfl, by decide +kernel, by decide +kernel⟩
def sp_order_for (K : PySem.W.Frag) : Sp := fun vs H Q _ => ∃ (a : Addr) (songs : List Int) (gap : Int), vs = [.ref a, .int gap] ∧ SqL K H a (songs.map V.int) ∧ songs.length ≤ 60 ∧ SgOk songs ∧ GapOk gap ∧
  ∀ b H', H b = none → Same H H' → H' b = some (.lst ((orderFor songs gap).map V.int)) → Q (.ref b) H'
theorem rep0 (n : Nat) : (List.replicate n [V.int 0]).flatten = (List.replicate n (0 : Int)).map V.int := by rw [rep_flat, rep_ints]
theorem set_ints (l : List Int) (j : Nat) (x : Int) : (l.map V.int).set j (V.int x) = (l.set j x).map V.int := by rw [List.map_set]
theorem fn_order_for (T : Tx K mg) : Fn P w K mg base "order_for" 2 (sp_order_for K) := by
  obtain ⟨fd, F⟩ := T.d_order_for
  refine ⟨_, fd, _, F.ok (CX := CX0) sc_order_for (fun vs H Q E h => ?_) (fun cdv A outer s H vs Q E hr h => ?_), T.g_order_for, F.kp, F.bindsN fun _ _ _ _ _ _ us hl => match us, hl with | [_, _], _ => rfl⟩
  · obtain ⟨a, songs, gap, rfl, _⟩ := h; rfl
  · obtain ⟨a, songs, gap, rfl, ha, hl, hs, hg, q⟩ := h
    refine ⟨_, PSs.nox (pss_cons (ps_asg (pe_tup (pa_cons (pe_fn (fn_counts_of T) (hr.mono (by first | decide | omega)) (by rfl) (pa_cons (pv 0) pa_nil)) (pa_cons (pe_op op_fdivW (pe_callB (show CallR _ _ (rLenQ K) from call_len_seq) (by rfl) T.len (by decide +kernel) (pa_cons (pv 0) pa_nil)) (pe_op op_add (pv 1) pe_int)) pa_nil))) (show PG _ _ (gTup K _ _) from pg_tup rfl (pgs_cons (pg_name (i := 2) sc_order_for.nd rfl (by first | exact Or.inl rfl | exact Or.inr rfl)) (pgs_cons (pg_name (i := 3) sc_order_for.nd rfl (by first | exact Or.inl rfl | exact Or.inr rfl)) pgs_nil))))
      (pss_cons (ps_setLc (i := 4) (own := [("singer", 5)]) (g := (gName 5)) (tt := _) (by rfl) sc_order_for.nd rfl rfl (sw_true rfl rfl rfl (by decide +kernel)) (show PI _ _ _ (iList K _) from pi_list (pe_callB (call_sortedDI (by rfl)) (by rfl) T.sorted (by decide +kernel) (pa_cons (pv 2) pa_nil))) (blkOk_by (by kernel_rfl)) (fun _ _ _ _ _ => (pg_name (i := 5) sc_order_for.nd rfl (by first | exact Or.inl rfl | exact Or.inr rfl))) (fun _ _ _ _ _ => pts_one (pt_cmpR op_le (pe_dget (hu_of hr) (pv 2) (pv 5) (fun _ _ => rfl)) (pv 3) (nomark _))) (fun _ _ _ _ _ => (pv 5)))
      (pss_cons (ps_setLc (i := 6) (own := [("singer", 5)]) (g := (gName 5)) (tt := _) (by rfl) sc_order_for.nd rfl rfl (sw_true rfl rfl rfl (by decide +kernel)) (show PI _ _ _ (iList K _) from pi_list (pe_callB (call_sortedDI (by rfl)) (by rfl) T.sorted (by decide +kernel) (pa_cons (pv 2) pa_nil))) (blkOk_by (by kernel_rfl)) (fun _ _ _ _ _ => (pg_name (i := 5) sc_order_for.nd rfl (by first | exact Or.inl rfl | exact Or.inr rfl))) (fun _ _ _ _ _ => pts_one (pt_cmpR op_gt (pe_dget (hu_of hr) (pv 2) (pv 5) (fun _ _ => rfl)) (pv 3) (nomark _))) (fun _ _ _ _ _ => (pv 5)))
      (pss_cons (ps_set (i := 7) sc_order_for.nd rfl (by first | exact Or.inl rfl | exact Or.inr rfl) (pe_lst pa_nil))
      (pss_cons (ps_for PassesOwn.never rfl (show PI _ _ _ (iList K _) from pi_list (pe_op op_cat (pv 4) (pv 6))) (pg_name (i := 5) sc_order_for.nd rfl (by first | exact Or.inl rfl | exact Or.inr rfl))
      (pss_one (ps_expr (show PE _ _ (tBM K _ _ _ _) from pe_bm PySem.F.plainAttrs_list PySem.F.slot_list_extend PySem.F.type_list_extend mt_extend (pv 7) (pa_cons (pe_lc (own := [("place", 8), ("one", 9)]) (g := (gTup K 2 (gCons (gName 8) (gCons (gName 9) gNil)))) (tt := _) (by rfl) sc_order_for.nd (show PI _ _ _ (iEnum K _) from pi_enum (by rfl) T.enumerate (pa_cons (pv 0) pa_nil)) (blkOk_by (by kernel_rfl)) (fun _ _ _ _ _ => (show PG _ _ (gTup K _ _) from pg_tup rfl (pgs_cons (pg_name (i := 8) sc_order_for.nd rfl (by first | exact Or.inl rfl | exact Or.inr rfl)) (pgs_cons (pg_name (i := 9) sc_order_for.nd rfl (by first | exact Or.inl rfl | exact Or.inr rfl)) pgs_nil)))) (fun _ _ _ _ _ => pts_one (pt_cmpR op_eq (pv 9) (pv 5) (nomark _))) (fun _ _ _ _ _ => (pv 8))) pa_nil)))))
      (pss_cons (ps_set (i := 10) sc_order_for.nd rfl (by first | exact Or.inl rfl | exact Or.inr rfl) (pe_op op_rep (pe_lst (pa_cons pe_int pa_nil)) (pe_callB (show CallR _ _ (rLenQ K) from call_len_seq) (by rfl) T.len (by decide +kernel) (pa_cons (pv 0) pa_nil))))
      (pss_cons (ps_for PassesOwn.never rfl (show PI _ _ _ (iZip K _) from pi_zip (by rfl) T.zip (pa_cons (pv 7) (pa_cons (pe_fn (fn_turns_in T) (hr.mono (by first | decide | omega)) (by rfl) (pa_cons (pe_callB (show CallR _ _ (rLenQ K) from call_len_seq) (by rfl) T.len (by decide +kernel) (pa_cons (pv 0) pa_nil)) (pa_cons (pe_op op_add (pv 1) pe_int) pa_nil))) pa_nil))) (show PG _ _ (gTup K _ _) from pg_tup rfl (pgs_cons (pg_name (i := 8) sc_order_for.nd rfl (by first | exact Or.inl rfl | exact Or.inr rfl)) (pgs_cons (pg_name (i := 11) sc_order_for.nd rfl (by first | exact Or.inl rfl | exact Or.inr rfl)) pgs_nil)))
      (pss_one (ps_asg (pv 8) (pg_sub (pv 10) (pv 11) set_list))))
      (pss_one (ps_ret (pv 10)))))))))), ?_⟩
    have hg0 := hg.1
    have hg1 := hg.2
    have sl := sng_len songs
    refine ⟨_, rfl, a, songs, rfl, ha, by omega, fun d H1 nd s1 hd => ?_⟩
    refine ⟨_, rfl, a, _, rfl, .inl (s1.seq ha), _, rfl, _, _, rfl, rfl, _, _, rfl, rfl, ⟨by omega, hg.log⟩, ?_⟩
    refine ⟨by show 2 ≤ sizeLine; decide, fun t nt => ?_⟩
    refine to_new nt fun H2 s2 ht => ?_
    rw [List.length_map] at ht
    refine ⟨t, _, rfl, SqT.of ht, rfl, _, _, rfl, _, _, rfl, rfl, ?_⟩
    have s12 := s1.trans s2
    have hd2 := s2 _ _ hd
    refine ⟨_, rfl, d, _, keysC (countsOf songs), rfl, .inl hd2, toK_keys _, keys_few hs, fun ys p2 pm2 pw2 np2 => ?_⟩
    have eys := sng_of hs pm2 pw2
    subst eys
    refine to_new np2 fun G1 g1 hp2 => ?_
    refine ⟨p2, rfl, ⟨_, SqL.of hp2⟩, fun D nD => lc_pure walk_list sqL_mono (SqL.of hp2) (selF (sng songs) fun s => decide ((songs.count s : Int) ≤ whole songs gap)) nD (by rw [List.length_map]; omega) ?_ ?_⟩
    · rintro i x G2 G3 hi g2 ⟨rfl, hx⟩ k kn hk hkn
      obtain ⟨s, rfl, hsi⟩ := int_at hx
      have hsm : s ∈ songs := (mem_sng hs).mp (List.mem_of_getElem? hsi)
      refine ⟨rfl, _, rfl, _, rfl, d, _, rfl, counts_in ((g1.trans g2) _ _ hd2) hsm, _, rfl, _, _, rfl, rfl, _, rfl, ?_⟩
      by_cases c : (songs.count s : Int) ≤ whole songs gap
      · rw [decide_eq_true (show (songs.count s : Int) ≤ (songs.length : Int) / (gap + 1) from c)]
        refine iteT ⟨_, rfl, hk _ _ ?_ (Same.refl _)⟩
        unfold selF
        rw [hsi]
        show (if decide _ = true then _ else _) = _
        rw [decide_eq_true c, if_pos rfl]
      · rw [decide_eq_false (show ¬ (songs.count s : Int) ≤ (songs.length : Int) / (gap + 1) from c)]
        refine iteF (hkn _ ?_ (Same.refl _))
        unfold selF
        rw [hsi]
        show (if decide _ = true then _ else _) = _
        rw [decide_eq_false c]; rfl
    intro H3 s3 hD
    rw [List.length_map, selF_all] at hD
    have hD : H3 D = some (.lst ((few songs gap).map V.int)) := hD
    have fwl : (few songs gap).length ≤ 6 := Nat.le_trans (List.length_filter_le _ _) sl
    have s13 := s12.trans (g1.trans s3)
    have hd3 := (g1.trans s3) _ _ hd2
    refine ⟨_, rfl, d, _, keysC (countsOf songs), rfl, .inl hd3, toK_keys _, keys_few hs, fun ys p3 pm3 pw3 np3 => ?_⟩
    have eys := sng_of hs pm3 pw3
    subst eys
    refine to_new np3 fun G4 g4 hp3 => ?_
    refine ⟨p3, rfl, ⟨_, SqL.of hp3⟩, fun E nE => lc_pure walk_list sqL_mono (SqL.of hp3) (selF (sng songs) fun s => decide ((songs.count s : Int) > whole songs gap)) nE (by rw [List.length_map]; omega) ?_ ?_⟩
    · rintro i x G2 G3 hi g2 ⟨rfl, hx⟩ k kn hk hkn
      obtain ⟨s, rfl, hsi⟩ := int_at hx
      have hsm : s ∈ songs := (mem_sng hs).mp (List.mem_of_getElem? hsi)
      refine ⟨rfl, _, rfl, _, rfl, d, _, rfl, counts_in ((g4.trans g2) _ _ hd3) hsm, _, rfl, _, _, rfl, rfl, _, rfl, ?_⟩
      by_cases c : (songs.count s : Int) > whole songs gap
      · rw [decide_eq_true (show (songs.count s : Int) > (songs.length : Int) / (gap + 1) from c)]
        refine iteT ⟨_, rfl, hk _ _ ?_ (Same.refl _)⟩
        unfold selF
        rw [hsi]
        show (if decide _ = true then _ else _) = _
        rw [decide_eq_true c, if_pos rfl]
      · rw [decide_eq_false (show ¬ (songs.count s : Int) > (songs.length : Int) / (gap + 1) from c)]
        refine iteF (hkn _ ?_ (Same.refl _))
        unfold selF
        rw [hsi]
        show (if decide _ = true then _ else _) = _
        rw [decide_eq_false c]; rfl
    intro H5 s5 hE
    rw [List.length_map, selF_all] at hE
    have hE : H5 E = some (.lst ((full songs gap).map V.int)) := hE
    have fll : (full songs gap).length ≤ 6 := Nat.le_trans (List.length_filter_le _ _) sl
    have s35 := g4.trans s5
    have s15 := s13.trans s35
    refine ⟨Nat.zero_le _, fun l nl => ?_⟩
    refine to_new nl fun H6 s6 hl6 => ?_
    refine ⟨_, rfl, _, rfl, D, E, _, _, rfl, rfl, s6 _ _ (s35 _ _ hD), s6 _ _ hE, ?_, fun z nz => ?_⟩
    · rw [List.length_map, List.length_map]
      have := lt_line (n := (few songs gap).length + (full songs gap).length) (by omega)
      omega
    rw [← List.map_append]
    refine to_new nz fun H7 s7 hz => ?_
    have s16 := s15.trans s6
    have s17 := s16.trans s7
    have nzl : z ≠ l := (ne_of_none hl6 nz).symm
    have nlH : H l = none := s15.free nl
    generalize hsf : few songs gap ++ full songs gap = sf at *
    have sfl : sf.length ≤ 12 := by rw [← hsf, List.length_append]; omega
    refine ⟨z, rfl, ⟨_, SqL.of hz⟩, for_list (K := K) (a := z) (xs := sf.map V.int) (fun i σ H' => ∃ (x5 x8 x9 : Option V), σ = [some (.ref a), some (.int gap), some (.ref d), some (.int ((songs.length : Int) / (gap + 1))), some (.ref D), x5, some (.ref E), some (.ref l), x8, x9, none, none] ∧
      Fra [l] H7 H' ∧ H' l = some (.lst ((placesOf songs (sf.take i)).map V.int)) ∧ (placesOf songs (sf.take i)).length ≤ 60 * i) ?_ ?_ ?_ ?_⟩
    · exact ⟨_, _, _, rfl, Fra.refl _ _, s7 _ _ hl6, Nat.le_refl _⟩
    · rintro i σ G _ ⟨_, _, _, _, f, _⟩
      exact SqL.of (f.one nzl hz)
    · rintro i v σ G hv ⟨x5, x8, x9, rfl, f, hG, hpl⟩
      obtain ⟨s, rfl, hsi⟩ := int_at hv
      have hi : i < sf.length := (List.getElem?_eq_some_iff.mp hsi).1
      have sG : Same H G := f.back s17 (fun x hx => by rw [List.mem_singleton.mp hx]; exact nlH)
      have haG := sG.seq ha
      refine ⟨_, rfl, .inl ⟨rfl, _, SqL.of hG⟩, _, rfl, a, _, rfl, haG, fun W nW => lc_pure walk_enum sqL_mono haG (spotF s (singles songs)) nW (by rw [List.length_map]; omega) ?_ ?_⟩
      · rintro k v H3 H4 hk s3 ⟨t, x, y, rfl, nt, rfl, hx, hy⟩ kk kn hkk hkn
        cases hx
        obtain ⟨o, rfl, ho⟩ := int_at hy
        have sT : Same H3 _ := Same.new (o := .tup [V.int (k : Nat), V.int o]) nt
        refine ⟨t, _, rfl, SqT.of upd_same, rfl, _, _, rfl, _, _, rfl, rfl, rfl, ?_⟩
        refine ⟨_, rfl, _, rfl, rfl, _, rfl, ?_⟩
        have hk2 : k < songs.length := (List.getElem?_eq_some_iff.mp ho).1
        have er : (singles songs).getD k [] = [o] := by
          rw [singles_getD hk2, List.getD_eq_getElem?_getD, ho]; rfl
        by_cases hm : o = s
        · rw [decide_eq_true (congrArg V.int hm)]
          refine iteT ⟨_, rfl, hkk _ _ ?_ sT⟩
          unfold spotF
          rw [er, if_pos (by rw [hm]; exact List.mem_singleton.mpr rfl)]
        · rw [decide_eq_false (fun z => hm (by injection z))]
          refine iteF (hkn _ ?_ sT)
          unfold spotF
          rw [er, if_neg (fun z => hm (List.mem_singleton.mp z).symm)]
      · intro G1 g1 hW
        rw [List.length_map, ← singles_len, spotF_all] at hW
        have pl := placesOf_map songs (sf.take i)
        have spl : (spots s (singles songs)).length ≤ 60 := by
          rw [places_len]
          exact Nat.le_trans List.count_le_length hl
        refine ⟨l, W, _, _, rfl, rfl, g1 _ _ hG, hW, ?_, ?_⟩
        · rw [List.length_map, List.length_map]
          have := lt_line (n := (placesOf songs (sf.take i)).length + (spots s (singles songs)).length) (by omega)
          omega
        refine to_put fun G2 f2 h2 => ?_
        have e : placesOf songs (sf.take (i + 1)) = placesOf songs (sf.take i) ++ spots s (singles songs) := by
          obtain ⟨hlt, eo⟩ := List.getElem?_eq_some_iff.mp hsi
          unfold placesOf
          rw [List.take_succ_eq_append_getElem hlt, List.flatMap_append, eo]
          simp
        refine ⟨_, _, _, rfl, f.trans ((Fra.of g1).trans f2), ?_, ?_⟩
        · rw [e, List.map_append]; exact h2
        · rw [e, List.length_append]; omega
    · rintro σ G ⟨x5, x8, x9, rfl, f, hG, _⟩
      rw [List.length_map, List.take_length] at hG
      have sG : Same H G := f.back s17 (fun x hx => by rw [List.mem_singleton.mp hx]; exact nlH)
      refine ⟨by show 1 ≤ sizeLine; decide, fun y ny => ?_⟩
      refine to_new ny fun G1 g1 hy => ?_
      have sG1 := sG.trans g1
      refine ⟨_, rfl, a, _, rfl, .inl (sG1.seq ha), y, _, _, rfl, rfl, hy, by omega, by rw [List.length_map]; omega, ?_, fun fo nfo => ?_⟩
      · rw [List.length_map]
        show 1 * ((songs.length : Int)).toNat ≤ sizeLine
        have := lt_line (n := songs.length) (by omega)
        omega
      rw [List.length_map, show ((songs.length : Int)).toNat = songs.length by omega, rep0]
      refine to_new nfo fun G2 g2 hfo => ?_
      have sG2 := sG1.trans g2
      have hk : ((gap.toNat + 1 : Nat) : Int) = gap + 1 := by omega
      refine ⟨_, rfl, _, rfl, a, _, rfl, .inl (sG2.seq ha), _, rfl, _, _, rfl, rfl, songs.length, gap.toNat + 1, ?_, by omega, by omega, by omega, fun tt G3 ntt g3 htt => ?_⟩
      · rw [List.length_map, hk]; rfl
      have hl3 := (g1.trans (g2.trans g3)) _ _ hG
      have hfo3 := g3 _ _ hfo
      have nlf : l ≠ fo := ne_of_none (g1 _ _ hG) nfo
      have ntf : tt ≠ fo := (ne_of_none hfo ntt).symm
      have sG3 := sG2.trans g3
      have nfoH : H fo = none := sG1.free nfo
      have pP : (placesOf songs sf).Perm (upto songs.length) := by
        obtain ⟨f1, f2⟩ := filter_split songs gap
        rw [← hsf]
        exact placesOf_perm f1 fun s h => (f2 s).mpr ((mem_sng hs).mpr h)
      have lP : (placesOf songs sf).length = songs.length := by rw [pP.length_eq, upto_len]
      have hw : 0 < gap.toNat + 1 := by omega
      have lT := turns_len (n := songs.length) hw
      have iT : InB songs.length (turnsIn songs.length (gap.toNat + 1)) := perm_in (turns_perm hw)
      have eo : orderFor songs gap = ((placesOf songs sf).zip (turnsIn songs.length (gap.toNat + 1))).foldl setAt (List.replicate songs.length 0) := by unfold orderFor; rw [hsf]
      generalize placesOf songs sf = PL at *
      generalize turnsIn songs.length (gap.toNat + 1) = TT at *
      have zl : (PL.zip TT).length = songs.length := by rw [List.length_zip]; omega
      refine ⟨l, tt, _, _, rfl, SqL.of hl3, SqL.of htt, for_it (walk_zip (xs := PL.map V.int) (ys := TT.map V.int) rfl) (fun i σ H' => ∃ (x8 x11 : Option V), σ = [some (.ref a), some (.int gap), some (.ref d), some (.int ((songs.length : Int) / (gap + 1))), some (.ref D), x5, some (.ref E), some (.ref l), x8, x9, some (.ref fo), x11] ∧
        Fra [fo] G3 H' ∧ H' fo = some (.lst ((((PL.zip TT).take i).foldl setAt (List.replicate songs.length 0)).map V.int))) ?_ ?_ ?_ ?_⟩
      · exact ⟨_, _, rfl, Fra.refl _ _, hfo3⟩
      · rintro i σ W _ ⟨_, _, _, f3, _⟩
        exact ⟨SqL.of (f3.one nlf hl3), SqL.of (f3.one ntf htt)⟩
      · rintro i v σ W W2 hi ⟨y8, y11, rfl, f3, hW⟩ ⟨t, x, y, rfl, nt, rfl, hx, hy⟩
        obtain ⟨pl, rfl, hp⟩ := int_at hx
        obtain ⟨tu, rfl, htu⟩ := int_at hy
        have hin := iT tu (List.mem_of_getElem? htu)
        refine ⟨t, _, rfl, SqT.of upd_same, rfl, _, _, rfl, _, _, rfl, rfl, ?_⟩
        have hz : (PL.zip TT)[i]? = some (pl, tu) := by rw [List.getElem?_zip_eq_some]; exact ⟨hp, htu⟩
        refine to_new nt fun W3 w3 _ => ?_
        have ll : (((PL.zip TT).take i).foldl setAt (List.replicate songs.length 0)).length = songs.length := by rw [setAts_len, List.length_replicate]
        refine ⟨_, rfl, _, rfl, _, rfl, fo, _, tu, tu.toNat, rfl, rfl, w3 _ _ hW, ixN_of hin.1 (by rw [List.length_map, ll]; exact hin.2), ?_⟩
        rw [set_ints]
        refine to_put fun W4 f4 h4 => ?_
        refine ⟨_, _, rfl, f3.trans ((Fra.of w3).trans f4), ?_⟩
        rw [foldl_take _ _ _ _ _ hz]
        exact h4
      · rintro σ W ⟨y8, y11, rfl, f3, hW⟩
        have e : min (PL.map V.int).length (TT.map V.int).length = (PL.zip TT).length := by rw [List.length_map, List.length_map, List.length_zip]
        rw [e, List.take_length, ← eo] at hW
        exact ⟨_, rfl, q fo W nfoH (f3.back sG3 (fun x hx => by rw [List.mem_singleton.mp hx]; exact nfoH)) hW⟩
theorem sc_check_songs : FnScope ["songs", "one"] ["songs"] (defScope s_check_songs) := ⟨rfl, rfl, rfl, by decide +kernel, rfl, by decide +kernel, by decide +kernel⟩
/-- songs of one singer each -/
def SongsOk (songs : List Int) : Prop := songs.length ≤ 24 ∧ SgOk songs
def sp_check_songs (K : PySem.W.Frag) : Sp := fun vs H Q _ => ∃ (a : Addr) (songs : List Int), vs = [.ref a] ∧ SqL K H a (songs.map V.int) ∧ SongsOk songs ∧ ∀ H', Same H H' → Q .non H'
theorem fn_check_songs (T : Tx K mg) : Fn P w K mg base "check_songs" 3 (sp_check_songs K) := by
  obtain ⟨fd, F⟩ := T.d_check_songs
  refine ⟨_, fd, _, F.ok (CX := CX0) sc_check_songs (fun vs H Q E h => ?_) (fun cdv A outer s H vs Q E hr h => ?_), T.g_check_songs, F.kp, F.bindsN fun _ _ _ _ _ _ us hl => match us, hl with | [_], _ => rfl⟩
  · obtain ⟨a, songs, rfl, _⟩ := h; rfl
  · obtain ⟨a, songs, rfl, ha, ⟨hl, hs⟩, q⟩ := h
    refine ⟨_, PSs.nox (pss_one (ps_if (PW.pt (pw_or (pt_not (pt_val (pe_fn (fn_are_numbers T) (hr.mono (by first | decide | omega)) (by rfl) (pa_cons (pv 0) pa_nil)))) (pw_or (pt_cmpR op_gt (pe_callB (show CallR _ _ (rLenQ K) from call_len_seq) (by rfl) T.len (by decide +kernel) (pa_cons (pv 0) pa_nil)) (pe_gi T.c_MOST_SONGS (by rfl)) (nomark _)) (pw_or1 (pt_not (pt_val (pe_callB (show CallR _ _ (rAll K) from cr_all (by rfl)) (by rfl) T.all (by decide +kernel) (pa_cons (pe_lc (own := [("one", 1)]) (g := (gName 1)) (tt := tYes) (by rfl) sc_check_songs.nd (show PI _ _ _ (iList K _) from pi_list (pv 0)) (blkOk_by (by kernel_rfl)) (fun _ _ _ _ _ => (pg_name (i := 1) sc_check_songs.nd rfl (by first | exact Or.inl rfl | exact Or.inr rfl))) (fun _ _ _ _ _ => pts_nil) (fun _ _ _ _ _ => (pe_chain op_le op_lt pe_int (pv 1) (pe_gi T.c_MOST_SINGERS (by rfl))))) pa_nil)))))))) (pss_one ps_never) pss_nil)), ?_⟩
    have allI : (songs.map V.int).all isInt = true := by
      rw [List.all_map, List.all_eq_true]; intro x _; rfl
    refine ⟨_, rfl, _, rfl, .inl ⟨a, _, rfl, ha, by rw [List.length_map]; omega, fun x hx => ?_, fun H1 s1 => ?_⟩⟩
    · obtain ⟨i, _, rfl⟩ := List.mem_map.mp hx
      exact ⟨_, kd_int i⟩
    rw [allI]
    refine ⟨_, rfl, iteF ⟨_, rfl, a, _, rfl, .inl (s1.seq ha), _, _, rfl, rfl, _, rfl, ?_⟩⟩
    rw [decide_eq_false (by rw [List.length_map]; omega)]
    refine iteF ⟨_, rfl, a, rfl, ⟨_, s1.seq ha⟩, fun D nD => lc_map (fun x => .bl (inR 6 x)) (s1.seq ha) nD (by rw [List.length_map]; omega) ?_ ?_ gname_mono⟩
    · intro i x H2 hx s2 k hk
      obtain ⟨n, rfl, _⟩ := int_at hx
      refine ⟨rfl, _, rfl, _, _, rfl, rfl, _, rfl, ?_⟩
      have hk2 : k (.bl (decide (0 ≤ n) && decide (n < 6))) H2 := hk H2 (Same.refl _)
      by_cases h0 : (0 : Int) ≤ n
      · rw [decide_eq_true h0] at hk2 ⊢
        exact iteT ⟨_, _, rfl, rfl, hk2⟩
      · rw [decide_eq_false h0] at hk2 ⊢
        exact iteF hk2
    intro H2 s2 hD
    refine ⟨_, (songs.map V.int).map (inR 6), rfl, SqL.of (by rw [← bls_all]; exact hD), _, rfl, ?_⟩
    rw [all_id, inR_all, List.all_eq_true.mpr fun s h => decide_eq_true (hs s h)]
    exact iteF (q _ (s1.trans s2))
/-! #### answers with a list -/
def orF (l : Addr) : List (Str × V) := [("order", .ref l)]
theorem orF_order (l : Addr) : (orF l).lookup ("order" : Str) = some (.ref l) := by kernel_rfl
theorem orF_shows (l : Addr) : (orF l).lookup ("shows" : Str) = none := by kernel_rfl
theorem orF_put (l : Addr) : putF "order" (.ref l) [] = orF l := by kernel_rfl
def siF (l : Addr) : List (Str × V) := [("singers", .ref l)]
theorem siF_singers (l : Addr) : (siF l).lookup ("singers" : Str) = some (.ref l) := by kernel_rfl
theorem siF_shows (l : Addr) : (siF l).lookup ("shows" : Str) = none := by kernel_rfl
theorem siF_put (l : Addr) : putF "singers" (.ref l) [] = siF l := by kernel_rfl
theorem sc_Spaced___init__ : FnScope ["self", "order"] ["self", "order"] (defScope s_Spaced___init__) := ⟨rfl, rfl, rfl, by decide +kernel, rfl, by decide +kernel, by decide +kernel⟩
def sp_spaced_init (K : PySem.W.Frag) : Sp := fun vs H Q _ => ∃ (p dx b : Addr) (os : List V), vs = [.ref p, .ref b] ∧ SqL K H b os ∧ H p = some (.ins (He.ga K "Spaced") dx []) ∧ ∀ l H', Fra [p] H H' → H l = none → H' l = some (.lst os) → H' p = some (.ins (He.ga K "Spaced") dx (orF l)) → Q .non H'
theorem mk_Spaced (T : Tx K mg) : Mke P w K mg base "Spaced" (He.ga K "Spaced") 1 (sp_spaced_init K) := by
  obtain ⟨fd, F⟩ := T.d_Spaced___init__
  refine ⟨_, fd, _, F.ok (CX := CX0) sc_Spaced___init__ (fun vs H Q E h => ?_) (fun cdv A outer s H vs Q E hr h => ?_), T.mk_Spaced, T.g_Spaced, F.bindsN fun _ _ _ _ _ _ us hl => match us, hl with | [_, _], _ => rfl⟩
  · obtain ⟨p, dx, b, os, rfl, _⟩ := h; rfl
  · obtain ⟨p, dx, b, os, rfl, hb, hp, q⟩ := h
    refine ⟨_, PSs.nox (pss_one (show PS _ _ (sFld K _ _ _) from ps_fld (pv 0) (pe_callTy (show CallR _ _ (rListO K) from call_list_of) (by rfl) T.list (by decide +kernel) (pa_cons (pv 1) pa_nil)) rfl)), ?_⟩
    refine ⟨_, rfl, b, _, rfl, .inl hb, fun l nl => ?_⟩
    refine to_new nl fun H1 s1 hl => ?_
    refine ⟨_, rfl, p, _, dx, _, rfl, s1 _ _ hp, T.cls_Spaced, T.na_Spaced_order, by show 0 < 1000; decide, ?_⟩
    rw [orF_put]
    exact to_put fun H2 f2 hp2 => q l H2 ((Fra.of s1).trans f2) nl (f2.one (ne_of_none hp nl).symm hl) hp2
theorem sc_Barred___init__ : FnScope ["self", "singers"] ["self", "singers"] (defScope s_Barred___init__) := ⟨rfl, rfl, rfl, by decide +kernel, rfl, by decide +kernel, by decide +kernel⟩
def sp_barred_init (K : PySem.W.Frag) : Sp := fun vs H Q _ => ∃ (p dx b : Addr) (os : List V), vs = [.ref p, .ref b] ∧ SqL K H b os ∧ H p = some (.ins (He.ga K "Barred") dx []) ∧ ∀ l H', Fra [p] H H' → H l = none → H' l = some (.lst os) → H' p = some (.ins (He.ga K "Barred") dx (siF l)) → Q .non H'
theorem mk_Barred (T : Tx K mg) : Mke P w K mg base "Barred" (He.ga K "Barred") 1 (sp_barred_init K) := by
  obtain ⟨fd, F⟩ := T.d_Barred___init__
  refine ⟨_, fd, _, F.ok (CX := CX0) sc_Barred___init__ (fun vs H Q E h => ?_) (fun cdv A outer s H vs Q E hr h => ?_), T.mk_Barred, T.g_Barred, F.bindsN fun _ _ _ _ _ _ us hl => match us, hl with | [_, _], _ => rfl⟩
  · obtain ⟨p, dx, b, os, rfl, _⟩ := h; rfl
  · obtain ⟨p, dx, b, os, rfl, hb, hp, q⟩ := h
    refine ⟨_, PSs.nox (pss_one (show PS _ _ (sFld K _ _ _) from ps_fld (pv 0) (pe_callTy (show CallR _ _ (rListO K) from call_list_of) (by rfl) T.list (by decide +kernel) (pa_cons (pv 1) pa_nil)) rfl)), ?_⟩
    refine ⟨_, rfl, b, _, rfl, .inl hb, fun l nl => ?_⟩
    refine to_new nl fun H1 s1 hl => ?_
    refine ⟨_, rfl, p, _, dx, _, rfl, s1 _ _ hp, T.cls_Barred, T.na_Barred_singers, by show 0 < 1000; decide, ?_⟩
    rw [siF_put]
    exact to_put fun H2 f2 hp2 => q l H2 ((Fra.of s1).trans f2) nl (f2.one (ne_of_none hp nl).symm hl) hp2
/-- a Spaced, its order at l -/
def SpAt (K : PySem.W.Frag) (H : Hp) (p l : Addr) (os : List Int) : Prop := (∃ dx, H p = some (.ins (He.ga K "Spaced") dx (orF l))) ∧ H l = some (.lst (os.map V.int))
def BaAt (K : PySem.W.Frag) (H : Hp) (p l : Addr) (ss : List Int) : Prop := (∃ dx, H p = some (.ins (He.ga K "Barred") dx (siF l))) ∧ H l = some (.lst (ss.map V.int))
theorem SpAt.mono {H H' : Hp} {p l : Addr} {os : List Int} (s : Same H H') (h : SpAt K H p l os) : SpAt K H' p l os := by
  obtain ⟨⟨dx, h1⟩, h2⟩ := h
  exact ⟨⟨dx, s _ _ h1⟩, s _ _ h2⟩
theorem BaAt.mono {H H' : Hp} {p l : Addr} {os : List Int} (s : Same H H') (h : BaAt K H p l os) : BaAt K H' p l os := by
  obtain ⟨⟨dx, h1⟩, h2⟩ := h
  exact ⟨⟨dx, s _ _ h1⟩, s _ _ h2⟩
theorem sc_Spaced_shows : FnScope ["self", "songs", "gap", "singer"] ["self", "songs", "gap"] (defScope s_Spaced_shows) := ⟨rfl, rfl, rfl, by decide +kernel, rfl, by decide +kernel, by decide +kernel⟩
/-- whether an order shows it -/
def showsSp (songs os : List Int) (gap : Int) : Bool := os.isPerm (upto songs.length) && keepsP songs os gap
def sp_spaced_shows (K : PySem.W.Frag) : Sp := fun vs H Q _ => ∃ (p l a : Addr) (songs os : List Int) (gap : Int), vs = [.ref p, .ref a, .int gap] ∧ SpAt K H p l os ∧ SqL K H a (songs.map V.int) ∧ songs.length ≤ 60 ∧ ∀ H', Same H H' → Q (.bl (showsSp songs os gap)) H'
theorem perm_dec {ns os : List Int} {n : Nat} (p : ns.Perm os) (pw : ns.Pairwise (· ≤ ·)) : decide (ns = upto n) = os.isPerm (upto n) := by
  rw [Bool.eq_iff_iff, decide_eq_true_eq, List.isPerm_iff]
  constructor
  · intro e; rw [← e]; exact p.symm
  · intro h; exact perm_sorted_eq (p.trans h) pw (upto_sorted _)
theorem me_Spaced_shows (T : Tx K mg) : Me P w K mg base (He.ga K "Spaced") "shows" 3 (sp_spaced_shows K) := by
  obtain ⟨fd, F⟩ := T.d_Spaced_shows
  refine ⟨_, fd, _, F.ok (CX := CX0) sc_Spaced_shows (fun vs H Q E h => ?_) (fun cdv A outer s H vs Q E hr h => ?_), T.cls_Spaced, T.me_Spaced_shows, F.bindsN fun _ _ _ _ _ _ us hl => match us, hl with | [_, _, _], _ => rfl⟩
  · obtain ⟨p, l, a, songs, os, gap, rfl, _⟩ := h; rfl
  · obtain ⟨p, l, a, songs, os, gap, rfl, ⟨⟨dx, hp⟩, hlo⟩, ha, hl, q⟩ := h
    refine ⟨_, PSs.nox (pss_cons (ps_if (pt_cmpR (show OpR _ _ (rNeD K) from op_neD hr.units) (pe_callB (show CallR _ _ (rSortedI K) from cr_sortedI) (by rfl) T.sorted (by decide +kernel) (pa_cons (show PE _ _ (tFld K _ _) from pe_fld (pv 0) rfl) pa_nil)) (pe_listRg (by rfl) (by rfl) T.list (prg_1 (by rfl) T.range (pe_callB (show CallR _ _ (rLenQ K) from call_len_seq) (by rfl) T.len (by decide +kernel) (pa_cons (pv 1) pa_nil)))) (nomark _)) (pss_one (ps_ret pe_bl)) pss_nil)
      (pss_one (ps_ret (pe_fn (fn_keeps T) (hr.mono (by first | decide | omega)) (by rfl) (pa_cons (pe_lc (own := [("singer", 3)]) (g := (gName 3)) (tt := tYes) (by rfl) sc_Spaced_shows.nd (show PI _ _ _ (iList K _) from pi_list (pv 1)) (blkOk_by (by kernel_rfl)) (fun _ _ _ _ _ => (pg_name (i := 3) sc_Spaced_shows.nd rfl (by first | exact Or.inl rfl | exact Or.inr rfl))) (fun _ _ _ _ _ => pts_nil) (fun _ _ _ _ _ => (pe_lst (pa_cons (pv 3) pa_nil)))) (pa_cons (show PE _ _ (tFld K _ _) from pe_fld (pv 0) rfl) (pa_cons (pv 2) pa_nil))))))), ?_⟩
    refine ⟨_, rfl, p, _, dx, _, _, rfl, hp, T.cls_Spaced, T.na_Spaced_order, orF_order _, l, os, rfl, SqL.of hlo, fun ns z pm pw nz => ?_⟩
    refine to_new nz fun H1 s1 hz => ?_
    refine ⟨_, rfl, a, _, rfl, .inl (s1.seq ha), _, rfl, ⟨by decide, by decide, by omega, by rw [List.length_map]; omega, by rw [List.length_map]; omega⟩, fun r nr => ?_⟩
    rw [List.length_map, rg0]
    refine to_new nr fun H2 s2 hr2 => ?_
    refine ⟨_, _, dp_ints (SqL.of (s2 _ _ hz)), dp_ints (SqL.of hr2), (shp_ints _).ok, (shp_ints _).ok, _, rfl, ?_⟩
    rw [eqv_intsD, perm_dec pm pw]
    have s12 := s1.trans s2
    unfold showsSp at q
    cases hP : os.isPerm (upto songs.length) with
    | false =>
      rw [hP] at q
      exact iteT (q _ s12)
    | true =>
      rw [hP] at q
      have pe : os.Perm (upto songs.length) := List.isPerm_iff.mp hP
      have ol : os.length = songs.length := by rw [pe.length_eq, upto_len]
      refine iteF ⟨_, rfl, a, rfl, ⟨_, s12.seq ha⟩, fun D nD => lc_all walk_list sqL_mono (s12.seq ha) (fun i H y => RowAt K H y ((singles songs).getD i [])) (fun _ _ _ _ s h => h.mono s) nD (by rw [List.length_map]; omega) ?_ ?_ gname_mono⟩
      · rintro k x G1 G2 acc hk g1 hD ⟨rfl, hx⟩ kk hkk
        obtain ⟨s, rfl, hs⟩ := int_at hx
        have hk2 : k < songs.length := (List.getElem?_eq_some_iff.mp hs).1
        refine ⟨rfl, _, rfl, by show 1 ≤ sizeLine; decide, fun u nu => hkk _ _ (Same.new nu) ?_⟩
        rw [singles_getD hk2, List.getD_eq_getElem?_getD, hs]
        refine ⟨u, rfl, SqL.of ?_⟩
        rw [off_out (by simp; exact (ne_of_none hD nu).symm)]
        exact upd_same
      · intro ch H3 s3 hD chl hch
        rw [List.length_map] at chl
        have hRE : Rows K H3 ch (singles songs) := ⟨by rw [chl, singles_len], fun i v e => (hch i v e).mono (off_le _ _)⟩
        have s23 := s12.trans s3
        refine ⟨_, rfl, p, _, dx, _, _, rfl, s23 _ _ hp, T.cls_Spaced, T.na_Spaced_order, orF_order _, _, rfl, D, l, ch, singles songs, os, gap, rfl, SqL.of hD, hRE, fun r hr => ?_, SqL.of (s23 _ _ hlo), by rw [singles_len]; exact perm_in pe, by omega, fun H4 s4 => ?_⟩
        · obtain ⟨s, _, rfl⟩ := List.mem_map.mp hr
          show 1 ≤ 3; decide
        exact q _ (s23.trans s4)
theorem sc_Barred_shows : FnScope ["self", "songs", "gap"] ["self", "songs", "gap"] (defScope s_Barred_shows) := ⟨rfl, rfl, rfl, by decide +kernel, rfl, by decide +kernel, by decide +kernel⟩
def sp_barred_shows (K : PySem.W.Frag) : Sp := fun vs H Q _ => ∃ (p l a : Addr) (songs ss : List Int) (gap : Int), vs = [.ref p, .ref a, .int gap] ∧ BaAt K H p l ss ∧ SqL K H a (songs.map V.int) ∧ songs.length ≤ 60 ∧ GapOk gap ∧ ss.length ≤ 900 ∧ ∀ H', Same H H' → Q (.bl (barsP songs gap ss)) H'
theorem me_Barred_shows (T : Tx K mg) : Me P w K mg base (He.ga K "Barred") "shows" 3 (sp_barred_shows K) := by
  obtain ⟨fd, F⟩ := T.d_Barred_shows
  refine ⟨_, fd, _, F.ok (CX := CX0) sc_Barred_shows (fun vs H Q E h => ?_) (fun cdv A outer s H vs Q E hr h => ?_), T.cls_Barred, T.me_Barred_shows, F.bindsN fun _ _ _ _ _ _ us hl => match us, hl with | [_, _, _], _ => rfl⟩
  · obtain ⟨p, l, a, songs, ss, gap, rfl, _⟩ := h; rfl
  · obtain ⟨p, l, a, songs, ss, gap, rfl, ⟨⟨dx, hp⟩, hlo⟩, ha, hl, hg, hsl, q⟩ := h
    refine ⟨_, PSs.nox (pss_one (ps_ret (pe_fn (fn_bars T) (hr.mono (by first | decide | omega)) (by rfl) (pa_cons (pv 1) (pa_cons (pv 2) (pa_cons (show PE _ _ (tFld K _ _) from pe_fld (pv 0) rfl) pa_nil)))))), ?_⟩
    exact ⟨_, rfl, _, rfl, _, rfl, p, _, dx, _, _, rfl, hp, T.cls_Barred, T.na_Barred_singers, siF_singers _, a, l, songs, ss, gap, rfl, ha, by omega, hg, SqL.of hlo, hsl, fun H1 s1 => q _ s1⟩
theorem sc_spaced : FnScope ["songs", "gap", "singers"] ["songs", "gap"] (defScope s_spaced) := ⟨rfl, rfl, rfl, by decide +kernel, rfl, by decide +kernel, by decide +kernel⟩
def sp_spaced (K : PySem.W.Frag) : Sp := fun vs H Q _ => ∃ (a : Addr) (songs : List Int) (gap : Int), vs = [.ref a, .int gap] ∧ SqL K H a (songs.map V.int) ∧ SongsOk songs ∧ GapOk gap ∧
  (barring songs gap = none → ∀ p l H', H p = none → H l = none → Same H H' → SpAt K H' p l (orderFor songs gap) → Q (.ref p) H') ∧ ∀ ss, barring songs gap = some ss → ∀ p l H', H p = none → H l = none → Same H H' → BaAt K H' p l ss → Q (.ref p) H'
theorem fn_spaced (T : Tx K mg) : Fn P w K mg base "spaced" 4 (sp_spaced K) := by
  obtain ⟨fd, F⟩ := T.d_spaced
  refine ⟨_, fd, _, F.ok (CX := CX0) sc_spaced (fun vs H Q E h => ?_) (fun cdv A outer s H vs Q E hr h => ?_), T.g_spaced, F.kp, F.bindsN fun _ _ _ _ _ _ us hl => match us, hl with | [_, _], _ => rfl⟩
  · obtain ⟨a, songs, gap, rfl, _⟩ := h; rfl
  · obtain ⟨a, songs, gap, rfl, ha, hS, hg, q0, q1⟩ := h
    refine ⟨_, PSs.nox (pss_cons (ps_expr (pe_fn (fn_check_songs T) (hr.mono (by first | decide | omega)) (by rfl) (pa_cons (pv 0) pa_nil)))
      (pss_cons (ps_if (PW.pt (pw_or (pt_not (pt_val (pe_fn (fn_is_whole T) (hr.mono (by first | decide | omega)) (by rfl) (pa_cons (pv 1) pa_nil)))) (pw_or1 (pt_cmpR op_lt (pv 1) pe_int (nomark _))))) (pss_one ps_never) pss_nil)
      (pss_cons (ps_set (i := 2) sc_spaced.nd rfl (by first | exact Or.inl rfl | exact Or.inr rfl) (pe_fn (fn_barring T) (hr.mono (by first | decide | omega)) (by rfl) (pa_cons (pv 0) (pa_cons (pv 1) pa_nil))))
      (pss_one (ps_ret (pe_ifExp (pt_cmpR op_notN (pv 2) pe_non (nomark _)) (pe_mk (mk_Barred T) (hr.mono (by first | decide | omega)) (by rfl) (pa_cons (pv 2) pa_nil)) (pe_mk (mk_Spaced T) (hr.mono (by first | decide | omega)) (by rfl) (pa_cons (pe_fn (fn_order_for T) (hr.mono (by first | decide | omega)) (by rfl) (pa_cons (pv 0) (pa_cons (pv 1) pa_nil))) pa_nil)))))))), ?_⟩
    have hg0 := hg.1
    have hl := hS.1
    have hs := hS.2
    refine ⟨_, rfl, a, songs, rfl, ha, hS, fun H1 s1 => ?_⟩
    refine ⟨_, rfl, _, "int", rfl, kd_int gap, _, rfl, iteF ⟨_, rfl, _, _, rfl, rfl, _, rfl, ?_⟩⟩
    rw [decide_eq_false (by omega)]
    refine iteF ⟨_, rfl, _, rfl, a, songs, gap, rfl, s1.seq ha, by omega, hs, hg, fun hn H2 s2 => ?_, fun ss hn b H2 nb s2 hb => ?_⟩
    · have s12 := s1.trans s2
      refine ⟨_, rfl, rfl, _, rfl, iteF ⟨_, rfl, _, rfl, a, songs, gap, rfl, s12.seq ha, by omega, hs, hg, fun b H3 nb s3 hb => ?_⟩⟩
      have s13 := s12.trans s3
      intro p dx np ndx ned
      exact ⟨p, dx, b, (orderFor songs gap).map V.int, rfl, (made_same np ndx (Fra.refl _ _)).seq (SqL.of hb), upd_same, fun l H4 f4 nl hl4 hp4 => ⟨rfl, q0 hn p l H4 (s13.free np) (s13.free (made_free nl)) (s13.trans (made_same np ndx f4)) ⟨⟨dx, hp4⟩, hl4⟩⟩⟩
    · have s12 := s1.trans s2
      refine ⟨_, rfl, rfl, _, rfl, iteT ⟨_, rfl, ?_⟩⟩
      intro p dx np ndx ned
      exact ⟨p, dx, b, ss.map V.int, rfl, (made_same np ndx (Fra.refl _ _)).seq (SqL.of hb), upd_same, fun l H4 f4 nl hl4 hp4 => ⟨rfl, q1 ss hn p l H4 (s12.free np) (s12.free (made_free nl)) (s12.trans (made_same np ndx f4)) ⟨⟨dx, hp4⟩, hl4⟩⟩⟩
end
end Song

/-! ### Gw7: widest -/
namespace Song
open PySem L2
theorem get_of_mem : ∀ {c : List (Int × Int)} {k v : Int}, (keysC c).Nodup → (k, v) ∈ c → getC c k = some v
  | [], _, _, _, h => by cases h
  | p :: c, k, v, nd, h => by
    obtain ⟨n1, n2⟩ := List.nodup_cons.mp (show (p.1 :: keysC c).Nodup from nd)
    unfold getC
    rcases List.mem_cons.mp h with e | e
    · rw [← e, List.find?_cons_of_pos (by simp)]; rfl
    · have ne : p.1 ≠ k := fun z => n1 (by rw [z]; exact List.mem_map.mpr ⟨(k, v), e, rfl⟩)
      rw [List.find?_cons_of_neg (by simpa using ne)]
      exact get_of_mem n2 e
theorem max_twice {songs : List Int} {m : Int} (h1 : m ∈ (countsOf songs).map (·.2) ++ [0]) (h2 : ∀ y ∈ (countsOf songs).map (·.2) ++ [0], y ≤ m) : decide (m < 2) = !twice songs := by
  obtain ⟨k1, k2⟩ := keys_counts songs
  cases ht : twice songs with
  | true =>
    obtain ⟨s, hs, hc⟩ := List.any_eq_true.mp ht
    have hc := of_decide_eq_true hc
    obtain ⟨p, hp, e⟩ := List.mem_map.mp ((k2 s).mpr hs)
    have hg := get_of_mem (k := p.1) (v := p.2) k1 hp
    rw [counts_get, e, if_pos hs] at hg
    have := h2 p.2 (List.mem_append.mpr (.inl (List.mem_map.mpr ⟨p, hp, rfl⟩)))
    have := Option.some.inj hg
    exact decide_eq_false (by omega)
  | false =>
    refine decide_eq_true ?_
    rcases List.mem_append.mp h1 with h | h
    · obtain ⟨p, hp, rfl⟩ := List.mem_map.mp h
      have hg := get_of_mem (k := p.1) (v := p.2) k1 hp
      have hs : p.1 ∈ songs := (k2 p.1).mp (List.mem_map.mpr ⟨p, hp, rfl⟩)
      rw [counts_get, if_pos hs] at hg
      have := Option.some.inj hg
      have nt : ¬ (songs.count p.1 > 1) := fun z => by
        have : twice songs = true := List.any_eq_true.mpr ⟨p.1, hs, decide_eq_true z⟩
        rw [ht] at this; cases this
      omega
    · rw [List.mem_singleton.mp h]; decide
theorem toK_vals (c : List (Int × Int)) : (toK c).map (·.2) = (c.map (·.2)).map V.int := by
  unfold toK
  rw [List.map_map, List.map_map]; rfl
section
variable {P : Program} {w : World} {K : PySem.W.Frag} {mg : Str → Option Value} {base : Heap}
theorem sc_widest : FnScope ["songs", "gap"] ["songs"] (defScope s_widest) := ⟨rfl, rfl, rfl, by decide +kernel, rfl, by decide +kernel, by decide +kernel⟩
def sp_widest (K : PySem.W.Frag) : Sp := fun vs H Q _ => ∃ (a : Addr) (songs : List Int), vs = [.ref a] ∧ SqL K H a (songs.map V.int) ∧ SongsOk songs ∧ ∀ H', Same H H' → Q (optV (widest songs)) H'
theorem fn_widest (T : Tx K mg) : Fn P w K mg base "widest" 4 (sp_widest K) := by
  obtain ⟨fd, F⟩ := T.d_widest
  refine ⟨_, fd, _, F.ok (CX := CX0) sc_widest (fun vs H Q E h => ?_) (fun cdv A outer s H vs Q E hr h => ?_), T.g_widest, F.kp, F.bindsN fun _ _ _ _ _ _ us hl => match us, hl with | [_], _ => rfl⟩
  · obtain ⟨a, songs, rfl, _⟩ := h; rfl
  · obtain ⟨a, songs, rfl, ha, hS, q⟩ := h
    refine ⟨_, PSs.nox (pss_cons (ps_expr (pe_fn (fn_check_songs T) (hr.mono (by first | decide | omega)) (by rfl) (pa_cons (pv 0) pa_nil)))
      (pss_cons (ps_if (pt_cmpR op_lt (pe_callB (show CallR _ _ (rMax K) from cr_max (by rfl)) (by rfl) T.max (by decide +kernel) (pa_cons (pe_op op_cat (pe_listVals (by rfl) (by rfl) T.list (pe_fn (fn_counts_of T) (hr.mono (by first | decide | omega)) (by rfl) (pa_cons (pv 0) pa_nil))) (pe_lst (pa_cons pe_int pa_nil))) pa_nil)) pe_int (nomark _)) (pss_one (ps_ret pe_non)) pss_nil)
      (pss_cons (ps_set (i := 1) sc_widest.nd rfl (by first | exact Or.inl rfl | exact Or.inr rfl) pe_int)
      (pss_cons (ps_while PassesOwn.never (pt_cmpR op_isN (pe_fn (fn_barring T) (hr.mono (by first | decide | omega)) (by rfl) (pa_cons (pv 0) (pa_cons (pe_op op_add (pv 1) pe_int) pa_nil))) pe_non (nomark _)) (pss_one (ps_aug (i := 1) sc_widest.nd rfl (by first | exact Or.inl rfl | exact Or.inr rfl) pe_int ip_add)))
      (pss_one (ps_ret (pv 1))))))), ?_⟩
    have hl := hS.1
    have hs := hS.2
    refine ⟨_, rfl, a, songs, rfl, ha, hS, fun H1 s1 => ?_⟩
    refine ⟨_, rfl, a, songs, rfl, s1.seq ha, by omega, fun d H2 nd s2 hd => ?_⟩
    have cl := countsOf_len songs
    refine ⟨d, _, rfl, hd, by rw [toK_len]; omega, fun l nl => ?_⟩
    rw [toK_vals]
    refine to_new nl fun H3 s3 hl3 => ?_
    refine ⟨by show 1 ≤ sizeLine; decide, fun z nz => ?_⟩
    refine to_new nz fun H4 s4 hz => ?_
    refine ⟨l, z, ((countsOf songs).map (·.2)).map V.int, [(0 : Int)].map V.int, rfl, rfl, s4 _ _ hl3, hz, ?_, fun c nc => ?_⟩
    · rw [List.length_map, List.length_map]
      have := lt_line (n := (countsOf songs).length + 1) (by omega)
      show (countsOf songs).length + 1 ≤ sizeLine
      omega
    rw [← List.map_append]
    refine to_new nc fun H5 s5 hc => ?_
    refine ⟨c, _, rfl, SqL.of hc, by simp, fun m hm hmm => ?_⟩
    refine ⟨_, _, rfl, rfl, _, rfl, ?_⟩
    rw [max_twice hm hmm]
    have s15 := s1.trans (s2.trans (s3.trans (s4.trans s5)))
    cases ht : twice songs with
    | false =>
      have e : widest songs = none := by unfold widest; rw [if_neg (by rw [ht]; decide)]
      rw [e] at q
      exact iteT (q _ s15)
    | true =>
      have e : widest songs = some (wid songs songs.length 0) := by unfold widest; rw [if_pos ht]
      rw [e] at q
      refine iteF ⟨fun m σ H' => ∃ g f : Nat, m = f ∧ σ = [some (.ref a), some (.int g)] ∧ Same H H' ∧ wid songs f g = wid songs songs.length 0 ∧ f + g = songs.length, ⟨songs.length, 0, songs.length, rfl, rfl, s15, rfl, rfl⟩, ?_⟩
      rintro f σ G ⟨g, _, rfl, rfl, gs, hw, hfg⟩
      have gok : GapOk ((g : Int) + 1) := ⟨by omega, by omega⟩
      refine ⟨_, rfl, _, rfl, _, _, rfl, rfl, a, songs, _, rfl, gs.seq ha, by omega, hs, gok, fun hn G1 g1 => ⟨rfl, _, rfl, ?_⟩, fun ss hn b G1 nb g1 hb => ⟨rfl, _, rfl, ?_⟩⟩
      · cases f with
        | zero => exact absurd hn (barring_far hs ht (by omega))
        | succ f =>
          refine ⟨fun σ' H' => ∃ g' f' : Nat, f' = f ∧ σ' = [some (.ref a), some (.int g')] ∧ Same H H' ∧ wid songs f' g' = wid songs songs.length 0 ∧ f' + g' = songs.length, fun σ' H' ⟨g', f', e1, e2⟩ => ⟨f, by omega, g', f', e1.symm, e2⟩, ?_⟩
          refine ⟨_, rfl, _, _, rfl, rfl, g + 1, f, rfl, rfl, gs.trans g1, ?_, by omega⟩
          have hw2 : wid songs (f + 1) g = wid songs f ((g : Int) + 1) := by
            show (if barring songs ((g : Int) + 1) = none then _ else _) = _
            rw [if_pos hn]
          rw [← hw, hw2]
          rfl
      · have e2 : wid songs f g = g := by
          cases f with
          | zero => rfl
          | succ f =>
            show (if barring songs ((g : Int) + 1) = none then _ else _) = _
            rw [if_neg (by rw [hn]; intro z; cases z)]
        rw [e2] at hw
        rw [← hw] at q
        exact ⟨_, rfl, q _ (gs.trans g1)⟩
end
end Song

/-! ### Rf: what an evening refuses -/
namespace Song
open PySem L2
/-- no count of singers -/
def NoMany (K : PySem.W.Frag) (H : Hp) (v : V) : Prop := (∃ t, Kd K H v t ∧ t ≠ "int") ∨ ∃ n : Int, v = .int n ∧ ¬ (1 ≤ n ∧ n ≤ 6)
theorem NoMany.mono {K : PySem.W.Frag} {H H' : Hp} {v : V} (s : Same H H') (h : NoMany K H v) : NoMany K H' v := by
  rcases h with ⟨t, h, n⟩ | h
  · exact .inl ⟨t, kd_mono s h, n⟩
  · exact .inr h
/-- no singers, so many -/
def NoSing (K : PySem.W.Frag) (H : Hp) (many : Int) (v : V) : Prop := (∃ t, Kd K H v t ∧ t ≠ "list") ∨ (∃ (a : Addr) (xs : List V), v = .ref a ∧ SqL K H a xs ∧ xs.length ≤ 1000 ∧ (∀ x ∈ xs, ∃ t, Kd K H x t) ∧ xs.all isInt = false) ∨
  ∃ (a : Addr) (ns : List Int), v = .ref a ∧ SqL K H a (ns.map V.int) ∧ ns.length ≤ 1000 ∧ areSingers ns many = false
theorem NoSing.mono {K : PySem.W.Frag} {H H' : Hp} {many : Int} {v : V} (s : Same H H') (h : NoSing K H many v) : NoSing K H' many v := by
  rcases h with ⟨t, h, n⟩ | ⟨a, xs, e, h, l, k, q⟩ | ⟨a, ns, e, h, l, q⟩
  · exact .inl ⟨t, kd_mono s h, n⟩
  · exact .inr (.inl ⟨a, xs, e, s.seq h, l, fun x hx => let ⟨t, z⟩ := k x hx; ⟨t, kd_mono s z⟩, q⟩)
  · exact .inr (.inr ⟨a, ns, e, s.seq h, l, q⟩)
/-- no song that waits -/
def NoSong (K : PySem.W.Frag) (H : Hp) (ws : List Int) (v : V) : Prop := (∃ t, Kd K H v t ∧ t ≠ "int") ∨ ∃ n : Int, v = .int n ∧ n ∉ ws
theorem NoSong.mono {K : PySem.W.Frag} {H H' : Hp} {ws : List Int} {v : V} (s : Same H H') (h : NoSong K H ws v) : NoSong K H' ws v := by
  rcases h with ⟨t, h, n⟩ | h
  · exact .inl ⟨t, kd_mono s h, n⟩
  · exact .inr h
theorem kd_not {K : PySem.W.Frag} {H : Hp} {v : V} {t : String} (h : Kd K H v t) (n : t ≠ "int") : isInt v = false := by
  rw [kd_isInt h]; exact beq_eq_false_iff_ne.mpr n
section
variable {P : Program} {w : World} {K : PySem.W.Frag} {mg : Str → Option Value} {base : Heap}
def sp_check_manyX (K : PySem.W.Frag) : Sp := fun vs H _ E => ∃ v, vs = [v] ∧ NoMany K H v ∧ E (.ref (He.ga K "BadMany")) none H
theorem fnx_check_many (T : Tx K mg) : FnX P w K mg base "check_many" 2 (sp_check_manyX K) := by
  obtain ⟨fd, F⟩ := T.d_check_many
  refine ⟨_, fd, _, F.ok (CX := L2.CX P w) sc_check_many (fun vs H Q E h => ?_) (fun cdv A outer s H vs Q E hr h => ?_), T.g_check_many, F.kp, F.bindsN fun _ _ _ _ _ _ us hl => match us, hl with | [_], _ => rfl⟩
  · obtain ⟨v, rfl, _⟩ := h; rfl
  · obtain ⟨v, rfl, hv, q⟩ := h
    refine ⟨_, (pss_one (ps_if (PW.pt (pw_or (pt_not (pt_val (pe_fn (fn_is_whole T) (hr.mono (by first | decide | omega)) (by rfl) (pa_cons (pv 0) pa_nil)))) (pw_or1 (pt_not (pt_chain op_le op_le pe_int (pv 0) (pe_gi T.c_MOST_SINGERS (by rfl))))))) (pss_one (ps_rz rfl tkF T.x_BadMany (by rfl))) pss_nil)), ?_⟩
    rcases hv with ⟨t, ht, hn⟩ | ⟨n, rfl, hn⟩
    · refine ⟨_, rfl, _, _, rfl, ht, _, rfl, ?_⟩
      rw [kd_not ht hn]
      exact iteT q
    · refine ⟨_, rfl, _, _, rfl, kd_int n, _, rfl, iteF ?_⟩
      refine ⟨_, rfl, _, _, rfl, rfl, _, rfl, ?_⟩
      by_cases h1 : (1 : Int) ≤ n
      · rw [decide_eq_true h1]
        refine iteT ⟨_, _, rfl, rfl, _, rfl, ?_⟩
        rw [decide_eq_false (by omega)]
        exact iteT q
      · rw [decide_eq_false h1]
        exact iteF ⟨_, rfl, iteT q⟩
def sp_are_singersN (K : PySem.W.Frag) : Sp := fun vs H Q _ => ∃ (v : V) (many : Int), vs = [v, .int many] ∧ ((∃ t, Kd K H v t ∧ t ≠ "list") ∨ (∃ (a : Addr) (xs : List V), v = .ref a ∧ SqL K H a xs ∧ xs.length ≤ 1000 ∧ (∀ x ∈ xs, ∃ t, Kd K H x t) ∧ xs.all isInt = false)) ∧ ∀ H', Same H H' → Q (.bl false) H'
theorem fnn_are_singers (T : Tx K mg) : Fn P w K mg base "are_singers" 3 (sp_are_singersN K) := by
  obtain ⟨fd, F⟩ := T.d_are_singers
  refine ⟨_, fd, _, F.ok (CX := CX0) sc_are_singers (fun vs H Q E h => ?_) (fun cdv A outer s H vs Q E hr h => ?_), T.g_are_singers, F.kp, F.bindsN fun _ _ _ _ _ _ us hl => match us, hl with | [_, _], _ => rfl⟩
  · obtain ⟨v, many, rfl, _⟩ := h; rfl
  · obtain ⟨v, many, rfl, hv, q⟩ := h
    refine ⟨_, PSs.nox (pss_cons (ps_if (PW.pt (pw_or (pt_not (pt_val (pe_fn (fn_are_numbers T) (hr.mono (by first | decide | omega)) (by rfl) (pa_cons (pv 0) pa_nil)))) (pw_or1 (pt_not (pt_chain op_le op_le pe_int (pe_callB (show CallR _ _ (rLenQ K) from call_len_seq) (by rfl) T.len (by decide +kernel) (pa_cons (pv 0) pa_nil)) (pe_gi T.c_MOST_OF_SONG (by rfl))))))) (pss_one (ps_ret pe_bl)) pss_nil)
      (pss_cons (ps_if (pt_not (pt_val (pe_callB (show CallR _ _ (rAll K) from cr_all (by rfl)) (by rfl) T.all (by decide +kernel) (pa_cons (pe_lc (own := [("one", 2)]) (g := (gName 2)) (tt := tYes) (by rfl) sc_are_singers.nd (show PI _ _ _ (iList K _) from pi_list (pv 0)) (blkOk_by (by kernel_rfl)) (fun _ _ _ _ _ => (pg_name (i := 2) sc_are_singers.nd rfl (by first | exact Or.inl rfl | exact Or.inr rfl))) (fun _ _ _ _ _ => pts_nil) (fun _ _ _ _ _ => (pe_chain op_le op_lt pe_int (pv 2) (pv 1)))) pa_nil)))) (pss_one (ps_ret pe_bl)) pss_nil)
      (pss_one (ps_ret (pe_callB (show CallR _ _ (rAll K) from cr_all (by rfl)) (by rfl) T.all (by decide +kernel) (pa_cons (pe_lc (own := [("one", 2), ("other", 3)]) (g := (gTup K 2 (gCons (gName 2) (gCons (gName 3) gNil)))) (tt := tYes) (by rfl) sc_are_singers.nd (show PI _ _ _ (iZip K _) from pi_zip (by rfl) T.zip (pa_cons (pv 0) (pa_cons (pe_slice (show SlR _ (rSlL K) from sl_list) (pv 0) (po_some pe_int) po_none) pa_nil))) (blkOk_by (by kernel_rfl)) (fun _ _ _ _ _ => (show PG _ _ (gTup K _ _) from pg_tup rfl (pgs_cons (pg_name (i := 2) sc_are_singers.nd rfl (by first | exact Or.inl rfl | exact Or.inr rfl)) (pgs_cons (pg_name (i := 3) sc_are_singers.nd rfl (by first | exact Or.inl rfl | exact Or.inr rfl)) pgs_nil)))) (fun _ _ _ _ _ => pts_nil) (fun _ _ _ _ _ => (pe_cmpR op_lt (pv 2) (pv 3) (nomark _)))) pa_nil)))))), ?_⟩
    rcases hv with ⟨t, ht, hn⟩ | ⟨a, xs, rfl, hs, hl, hk, hx⟩
    · exact ⟨_, rfl, v, rfl, .inr ⟨t, ht, hn, _, rfl, iteT (q _ (Same.refl _))⟩⟩
    · refine ⟨_, rfl, _, rfl, .inl ⟨a, xs, rfl, hs, hl, hk, fun H1 s1 => ?_⟩⟩
      rw [hx]
      exact ⟨_, rfl, iteT (q _ s1)⟩
/-- are_singers of what are none, by one of its two contracts -/
theorem singN {H : Hp} {many : Int} {v : V} {Q : VK} (h : NoSing K H many v) (q : ∀ H', Same H H' → Q (.bl false) H') : sp_are_singers K [v, .int many] H Q E0 ∨ sp_are_singersN K [v, .int many] H Q E0 := by
  rcases h with h | h | ⟨a, ns, rfl, hs, hl, hx⟩
  · exact .inr ⟨v, many, rfl, .inl h, q⟩
  · exact .inr ⟨v, many, rfl, .inr h, q⟩
  · exact .inl ⟨a, ns, many, rfl, hs, hl, by rw [hx]; exact q⟩
end
end Song

/-! ### Rfe: what an evening refuses, its own defs -/
namespace Song
open PySem L2
section
variable {P : Program} {w : World} {K : PySem.W.Frag} {mg : Str → Option Value} {base : Heap}
/-! #### Evening(many), judged(many, ..) -/
def sp_ev_initX (K : PySem.W.Frag) : Sp := fun vs H _ E => ∃ (p : Addr) (v : V), vs = [.ref p, v] ∧ NoMany K H v ∧ E (.ref (He.ga K "BadMany")) none H
theorem mkx_Evening (T : Tx K mg) : MkeX P w K mg base "Evening" (He.ga K "Evening") 3 (sp_ev_initX K) := by
  obtain ⟨fd, F⟩ := T.d_Evening___init__
  refine ⟨_, fd, _, F.ok (CX := L2.CX P w) sc_Evening___init__ (fun vs H Q E h => ?_) (fun cdv A outer s H vs Q E hr h => ?_), T.mk_Evening, T.g_Evening, F.bindsN fun _ _ _ _ _ _ us hl => match us, hl with | [_, _], _ => rfl⟩
  · obtain ⟨p, v, rfl, _⟩ := h; rfl
  · obtain ⟨p, v, rfl, hv, q⟩ := h
    refine ⟨_, (pss_cons (ps_expr (pe_fnx (fnx_check_many T) (hr.mono (by first | decide | omega)) (by rfl) tkF (pa_cons (pv 1) pa_nil)))
      pss_never), ?_⟩
    exact ⟨_, rfl, v, rfl, hv, q⟩
/-! #### wish -/
/-- refused at once, or because the evening is full -/
def sp_wishX (K : PySem.W.Frag) : Sp := fun vs H _ E => ∃ (S : List Addr) (p : Addr) (A : Ad) (st : EvS) (v : V), vs = [.ref p, v] ∧ Ev K S H p A st ∧
  ((NoSing K H st.last.length v ∧ ∀ H', Same H H' → E (.ref (He.ga K "BadSingers")) none H') ∨
    (∃ (a : Addr) (ss : List Int), v = .ref a ∧ SqL K H a (ss.map V.int) ∧ areSingers ss st.last.length = true ∧ st.rounds.length = 24 ∧ ∀ H', Same H H' → E (.ref (He.ga K "TooMany")) none H'))
theorem mex_Evening_wish (T : Tx K mg) : MeX P w K mg base (He.ga K "Evening") "wish" 4 (sp_wishX K) := by
  obtain ⟨fd, F⟩ := T.d_Evening_wish
  refine ⟨_, fd, _, F.ok (CX := L2.CX P w) sc_Evening_wish (fun vs H Q E h => ?_) (fun cdv A outer s H vs Q E hr h => ?_), T.cls_Evening, T.me_Evening_wish, F.bindsN fun _ _ _ _ _ _ us hl => match us, hl with | [_, _], _ => rfl⟩
  · obtain ⟨S, p, A, st, v, rfl, _⟩ := h; rfl
  · obtain ⟨S, p, A', st, v, rfl, ev, h⟩ := h
    obtain ⟨⟨cs, c, hq⟩, sub, dom, few⟩ := ev
    refine ⟨_, (pss_cons (ps_if (pt_not (pt_val (pe_alt (pe_fn (fn_are_singers T) (hr.mono (by first | decide | omega)) (by rfl) (pa_cons (pv 1) (pa_cons (pe_callB (show CallR _ _ (rLenQ K) from call_len_seq) (by rfl) T.len (by decide +kernel) (pa_cons (show PE _ _ (tFld K _ _) from pe_fld (pv 0) rfl) pa_nil)) pa_nil))) (pe_fn (fnn_are_singers T) (hr.mono (by first | decide | omega)) (by rfl) (pa_cons (pv 1) (pa_cons (pe_callB (show CallR _ _ (rLenQ K) from call_len_seq) (by rfl) T.len (by decide +kernel) (pa_cons (show PE _ _ (tFld K _ _) from pe_fld (pv 0) rfl) pa_nil)) pa_nil)))))) (pss_one (ps_rz rfl tkF T.x_BadSingers (by rfl))) pss_nil)
      (pss_cons (ps_if (pt_cmpR op_eq (pe_callB (show CallR _ _ (rLenQ K) from call_len_seq) (by rfl) T.len (by decide +kernel) (pa_cons (show PE _ _ (tFld K _ _) from pe_fld (pv 0) rfl) pa_nil)) (pe_gi T.c_MOST_SONGS (by rfl)) (nomark _)) (pss_one (ps_rz rfl tkF T.x_TooMany (by rfl))) pss_nil)
      pss_never)), ?_⟩
    obtain ⟨dx, hp⟩ := c.pp
    rcases h with ⟨hv, q⟩ | ⟨a, ss, rfl, hs, hA, h24, q⟩
    · rcases hv with hv | hv | ⟨a, ns, rfl, hs, hl, hx⟩
      · refine .inr ⟨_, rfl, _, rfl, p, _, dx, _, _, rfl, hp, T.cls_Evening, T.na_Evening_last, evF_last _ _, A'.la, _, rfl, .inl (SqL.of c.la), v, _, rfl, .inl hv, fun H1 t1 => ⟨_, rfl, iteT (q _ t1)⟩⟩
      · refine .inr ⟨_, rfl, _, rfl, p, _, dx, _, _, rfl, hp, T.cls_Evening, T.na_Evening_last, evF_last _ _, A'.la, _, rfl, .inl (SqL.of c.la), v, _, rfl, .inr hv, fun H1 t1 => ⟨_, rfl, iteT (q _ t1)⟩⟩
      · refine .inl ⟨_, rfl, _, rfl, p, _, dx, _, _, rfl, hp, T.cls_Evening, T.na_Evening_last, evF_last _ _, A'.la, _, rfl, .inl (SqL.of c.la), a, ns, _, rfl, hs, hl, fun H1 t1 => ?_⟩
        rw [List.length_map, hx]
        exact ⟨_, rfl, iteT (q _ t1)⟩
    · obtain ⟨s1, s3, sin, _⟩ := areS_len hA
      refine .inl ⟨_, rfl, _, rfl, p, _, dx, _, _, rfl, hp, T.cls_Evening, T.na_Evening_last, evF_last _ _, A'.la, _, rfl, .inl (SqL.of c.la), a, ss, _, rfl, hs, by omega, fun H1 t1 => ?_⟩
      rw [List.length_map, hA]
      refine ⟨_, rfl, iteF ?_⟩
      have c1 := c.mono t1
      have hp1 := t1 _ _ hp
      refine ⟨_, rfl, p, _, dx, _, _, rfl, hp1, T.cls_Evening, T.na_Evening_rounds, evF_rounds _ _, A'.ro, _, rfl, .inl (SqL.of c1.ro), rfl, _, rfl, ?_⟩
      rw [List.length_map, h24]
      exact iteT (q _ t1)
def sp_look_atX (K : PySem.W.Frag) : Sp := fun vs H _ E => ∃ (S : List Addr) (p : Addr) (A : Ad) (st : EvS) (v : V), vs = [.ref p, v] ∧ Ev K S H p A st ∧ NoSong K H st.waiting v ∧ E (.ref (He.ga K "BadSong")) none H
theorem mex_Evening_look_at (T : Tx K mg) : MeX P w K mg base (He.ga K "Evening") "look_at" 2 (sp_look_atX K) := by
  obtain ⟨fd, F⟩ := T.d_Evening_look_at
  refine ⟨_, fd, _, F.ok (CX := L2.CX P w) sc_Evening_look_at (fun vs H Q E h => ?_) (fun cdv A outer s H vs Q E hr h => ?_), T.cls_Evening, T.me_Evening_look_at, F.bindsN fun _ _ _ _ _ _ us hl => match us, hl with | [_, _], _ => rfl⟩
  · obtain ⟨S, p, A, st, v, rfl, _⟩ := h; rfl
  · obtain ⟨S, p, A', st, v, rfl, ev, hv, q⟩ := h
    obtain ⟨⟨cs, c, hq⟩, sub, dom, few⟩ := ev
    refine ⟨_, (pss_one (ps_if (PW.pt (pw_or (pt_not (pt_val (pe_fn (fn_is_whole T) (hr.mono (by first | decide | omega)) (by rfl) (pa_cons (pv 1) pa_nil)))) (pw_or1 (pt_cmpR (show OpR _ _ (rIn K true) from op_notIn_seq) (pv 1) (show PE _ _ (tFld K _ _) from pe_fld (pv 0) rfl) (by rfl))))) (pss_one (ps_rz rfl tkF T.x_BadSong (by rfl))) pss_nil)), ?_⟩
    obtain ⟨dx, hp⟩ := c.pp
    rcases hv with ⟨t, ht, hn⟩ | ⟨n, rfl, hn⟩
    · refine ⟨_, rfl, _, _, rfl, ht, _, rfl, ?_⟩
      rw [kd_not ht hn]
      exact iteT q
    · refine ⟨_, rfl, _, _, rfl, kd_int n, _, rfl, iteF ?_⟩
      refine ⟨_, rfl, _, rfl, p, _, dx, _, _, rfl, hp, T.cls_Evening, T.na_Evening_waiting, evF_waiting _ _, A'.wa, _, rfl, .inl (SqL.of c.wa), rfl, flat_ints _, _, rfl, ?_⟩
      rw [inV_ints, decide_eq_false hn]
      exact iteT q
def sp_songX (K : PySem.W.Frag) : Sp := sp_look_atX K
theorem mex_Evening_withdraw (T : Tx K mg) : MeX P w K mg base (He.ga K "Evening") "withdraw" 3 (sp_look_atX K) := by
  obtain ⟨fd, F⟩ := T.d_Evening_withdraw
  refine ⟨_, fd, _, F.ok (CX := L2.CX P w) sc_Evening_withdraw (fun vs H Q E h => ?_) (fun cdv A outer s H vs Q E hr h => ?_), T.cls_Evening, T.me_Evening_withdraw, F.bindsN fun _ _ _ _ _ _ us hl => match us, hl with | [_, _], _ => rfl⟩
  · obtain ⟨S, p, A, st, v, rfl, _⟩ := h; rfl
  · obtain ⟨S, p, A', st, v, rfl, ev, hv, q⟩ := h
    refine ⟨_, (pss_cons (ps_expr (pe_mex (mex_Evening_look_at T) (hr.mono (by first | decide | omega)) tkF (pv 0) (pa_cons (pv 1) pa_nil)))
      pss_never), ?_⟩
    obtain ⟨⟨cs, c, hq⟩, sub, dom, few⟩ := id ev
    obtain ⟨dx, hp⟩ := c.pp
    exact ⟨_, rfl, p, dx, _, rfl, hp, evF_no _ _ (by decide +kernel), _, rfl, S, p, A', st, v, rfl, ev, hv, q⟩
end
end Song

/-! ### Dd: data of any sort, written out; what the checks say of it -/
namespace Song
open PySem L2
inductive D where
  | non
  | bl (b : Bool)
  | int (i : Int)
  | str (s : Str)
  | lst (l : List D)
  | tup (l : List D)
  | dic
mutual
inductive Dx (H : Hp) : V → D → Prop
  | non : Dx H .non .non
  | bl (b : Bool) : Dx H (.bl b) (.bl b)
  | int (i : Int) : Dx H (.int i) (.int i)
  | str (s : Str) : Dx H (.str s) (.str s)
  | lst {a : Addr} {vs : List V} {ds : List D} : H a = some (.lst vs) → DxAll H vs ds → Dx H (.ref a) (.lst ds)
  | tup {a : Addr} {vs : List V} {ds : List D} : H a = some (.tup vs) → DxAll H vs ds → Dx H (.ref a) (.tup ds)
  | dic {a : Addr} {kvs : List (Key × V)} : H a = some (.dK kvs) → Dx H (.ref a) .dic
inductive DxAll (H : Hp) : List V → List D → Prop
  | nil : DxAll H [] []
  | cons {v : V} {d : D} {vs : List V} {ds : List D} : Dx H v d → DxAll H vs ds → DxAll H (v :: vs) (d :: ds)
end
mutual
theorem dx_mono {H H' : Hp} (s : Same H H') : ∀ {v : V} {d : D}, Dx H v d → Dx H' v d
  | _, _, .non => .non
  | _, _, .bl b => .bl b
  | _, _, .int i => .int i
  | _, _, .str x => .str x
  | _, _, .lst h a => .lst (s _ _ h) (dxAll_mono s a)
  | _, _, .tup h a => .tup (s _ _ h) (dxAll_mono s a)
  | _, _, .dic h => .dic (s _ _ h)
theorem dxAll_mono {H H' : Hp} (s : Same H H') : ∀ {vs : List V} {ds : List D}, DxAll H vs ds → DxAll H' vs ds
  | _, _, .nil => .nil
  | _, _, .cons d a => .cons (dx_mono s d) (dxAll_mono s a)
end
mutual
theorem dx_nt {H : Hp} : ∀ {v : V} {d : D}, Dx H v d → Dx (nt H) v d
  | _, _, .non => .non
  | _, _, .bl b => .bl b
  | _, _, .int i => .int i
  | _, _, .str x => .str x
  | _, _, .lst h a => .lst (nt_of h fun _ z => by cases z) (dxAll_nt a)
  | _, _, .tup h a => .tup (nt_of h fun _ z => by cases z) (dxAll_nt a)
  | _, _, .dic h => .dic (nt_of h fun _ z => by cases z)
theorem dxAll_nt {H : Hp} : ∀ {vs : List V} {ds : List D}, DxAll H vs ds → DxAll (nt H) vs ds
  | _, _, .nil => .nil
  | _, _, .cons d a => .cons (dx_nt d) (dxAll_nt a)
end
theorem dxAll_len {H : Hp} : ∀ {vs : List V} {ds : List D}, DxAll H vs ds → vs.length = ds.length
  | _, _, .nil => rfl
  | _, _, .cons _ a => by simp [dxAll_len a]
theorem dxAll_app {H : Hp} : ∀ {vs ws : List V} {ds es : List D}, DxAll H vs ds → DxAll H ws es → DxAll H (vs ++ ws) (ds ++ es)
  | _, _, _, _, .nil, h => h
  | _, _, _, _, .cons d a, h => .cons d (dxAll_app a h)
theorem dxAll_get {H : Hp} : ∀ {vs : List V} {ds : List D} {i : Nat} {v : V}, DxAll H vs ds → vs[i]? = some v → ∃ d, ds[i]? = some d ∧ Dx H v d
  | _, _, _, _, .nil, e => by simp at e
  | _, _, 0, _, .cons d a, e => by simp at e; subst e; exact ⟨_, rfl, d⟩
  | _, _, i + 1, v, .cons d a, e => by
    obtain ⟨d', h1, h2⟩ := dxAll_get (i := i) (v := v) a (by simpa using e)
    exact ⟨d', by simpa using h1, h2⟩
theorem dxAll_rep {H : Hp} {v : V} {d : D} (h : Dx H v d) : ∀ n, DxAll H (List.replicate n v) (List.replicate n d)
  | 0 => .nil
  | n + 1 => .cons h (dxAll_rep h n)
def kindD : D → String
  | .non => "NoneType"
  | .bl _ => "bool"
  | .int _ => "int"
  | .str _ => "str"
  | .lst _ => "list"
  | .tup _ => "tuple"
  | .dic => "dict"
theorem dx_kd {K : PySem.W.Frag} {H : Hp} {v : V} {d : D} : Dx H v d → Kd K H v (kindD d)
  | .non => .base .non
  | .bl b => .base (.bl b)
  | .int i => .base (.int i)
  | .str x => .base (.str x)
  | .lst h _ => .base (.lst h)
  | .tup h _ => .base (.tup h)
  | .dic h => .base (.dK h)
def wholeD : D → Bool
  | .int _ => true
  | _ => false
def intD : D → Int
  | .int i => i
  | _ => 0
def numsD : D → Bool
  | .lst ds => ds.all wholeD
  | _ => false
theorem dx_whole {H : Hp} {v : V} {d : D} (h : Dx H v d) : isInt v = wholeD d := by cases h <;> rfl
theorem dxAll_whole {H : Hp} : ∀ {vs : List V} {ds : List D}, DxAll H vs ds → vs.all isInt = ds.all wholeD
  | _, _, .nil => rfl
  | _, _, .cons d a => by rw [List.all_cons, List.all_cons, dx_whole d, dxAll_whole a]
theorem dxAll_kds {K : PySem.W.Frag} {H : Hp} {vs : List V} {ds : List D} (h : DxAll H vs ds) : ∀ x ∈ vs, ∃ t, Kd K H x t := fun x hx => by
  obtain ⟨i, hi, rfl⟩ := List.mem_iff_getElem.mp hx
  obtain ⟨d, _, q⟩ := dxAll_get h (List.getElem?_eq_getElem hi)
  exact ⟨_, dx_kd q⟩
theorem dxAll_ints {H : Hp} : ∀ {vs : List V} {ds : List D}, DxAll H vs ds → ds.all wholeD = true → vs = (ds.map intD).map V.int
  | _, _, .nil, _ => rfl
  | _, _, .cons d a, e => by
    rw [List.all_cons, Bool.and_eq_true] at e
    rw [List.map_cons, List.map_cons, ← dxAll_ints a e.2]
    cases d <;> first | rfl | (cases e.1)
theorem kindD_list {d : D} (h : ∀ ds, d ≠ .lst ds) : kindD d ≠ "list" := by
  cases d <;> first | exact absurd rfl (h _) | (simp [kindD]; done)
theorem kindD_tup {d : D} (h : ∀ ds, d ≠ .tup ds) : kindD d ≠ "tuple" := by
  cases d <;> first | exact absurd rfl (h _) | (simp [kindD]; done)
theorem kindD_str {d : D} (h : ∀ s, d ≠ .str s) : kindD d ≠ "str" := by
  cases d <;> first | exact absurd rfl (h _) | (simp [kindD]; done)
theorem kindD_int {d : D} (h : wholeD d = false) : kindD d ≠ "int" := by
  cases d <;> first | (cases h; done) | (simp [kindD]; done)
/-- are_numbers of written data -/
theorem nums_sp {K : PySem.W.Frag} {H : Hp} {v : V} {d : D} {Q : VK} {E : XK} (h : Dx H v d) (hl : ∀ ds, d = .lst ds → ds.length ≤ 1000) (q : ∀ H', Same H H' → Q (.bl (numsD d)) H') : sp_are_numbers K [v] H Q E := by
  refine ⟨v, rfl, ?_⟩
  cases h with
  | lst h a =>
    refine .inl ⟨_, _, rfl, SqL.of h, by rw [dxAll_len a]; exact hl _ rfl, dxAll_kds a, fun H' s => ?_⟩
    rw [dxAll_whole a]; exact q H' s
  | non => exact .inr ⟨_, .base .non, by decide, q _ (Same.refl _)⟩
  | bl b => exact .inr ⟨_, .base (.bl b), by decide, q _ (Same.refl _)⟩
  | int i => exact .inr ⟨_, .base (.int i), by decide, q _ (Same.refl _)⟩
  | str x => exact .inr ⟨_, .base (.str x), by decide, q _ (Same.refl _)⟩
  | tup h a => exact .inr ⟨_, .base (.tup h), by decide, q _ (Same.refl _)⟩
  | dic h => exact .inr ⟨_, .base (.dK h), by decide, q _ (Same.refl _)⟩
theorem rd_nums {K : PySem.W.Frag} {H : Hp} {v : V} {d : D} {Q : VK} {σ : L2.St} {ta : TA} (h : Dx H v d) (hl : ∀ ds, d = .lst ds → ds.length ≤ 1000) (hta : ∀ R : List V → Hp → Prop, R [v] H → ta σ H R) (q : ∀ H', Same H H' → Q (.bl (numsD d)) H') : iCall (sp_are_numbers K) ta σ H Q := iCall_of (hta _ (nums_sp h hl q))
/-! #### displays -/
/-- the reading te lays the data d, over what stands in G -/
def Gv (G : Hp) (σ : L2.St) (te : TE) (d : D) : Prop := ∀ H, Same G H → ∀ Q : VK, (∀ v H', Same H H' → Dx H' v d → Q v H') → te σ H Q
def GvA (G : Hp) (σ : L2.St) (ta : TA) (ds : List D) : Prop := ∀ H, Same G H → ∀ Q : List V → Hp → Prop, (∀ vs H', Same H H' → DxAll H' vs ds → Q vs H') → ta σ H Q
section
variable {G : Hp} {σ : L2.St}
theorem gv_non : Gv G σ (tC .non) .non := fun H _ Q q => q _ H (Same.refl _) .non
theorem gv_bl {b : Bool} : Gv G σ (tC (.bl b)) (.bl b) := fun H _ Q q => q _ H (Same.refl _) (.bl b)
theorem gv_int {i : Int} : Gv G σ (tC (.int i)) (.int i) := fun H _ Q q => q _ H (Same.refl _) (.int i)
theorem gv_str {s : Str} : Gv G σ (tC (.str s)) (.str s) := fun H _ Q q => q _ H (Same.refl _) (.str s)
theorem gv_num {te : TE} {n : Int} (h : ∀ (H : Hp) (Q : VK), Q (.int n) H → te σ H Q) : Gv G σ te (.int n) := fun H _ Q q => h H Q (q _ H (Same.refl _) (.int n))
theorem gv_var {i : Nat} {v : V} {d : D} (hσ : σ[i]? = some (some v)) (hd : Dx G v d) : Gv G σ (tVar i) d := fun H s Q q => ⟨v, hσ, q v H (Same.refl _) (dx_mono s hd)⟩
theorem ga_nil : GvA G σ tNil [] := fun H _ Q q => q _ H (Same.refl _) .nil
theorem ga_cons {te : TE} {ta : TA} {d : D} {ds : List D} (h : Gv G σ te d) (t : GvA G σ ta ds) : GvA G σ (tCons te ta) (d :: ds) := fun H s Q q =>
  h H s _ fun v H1 s1 hv => t H1 (s.trans s1) _ fun vs H2 s2 hvs => q _ H2 (s1.trans s2) (.cons (dx_mono s2 hv) hvs)
theorem gv_lst {ta : TA} {ds : List D} (h : GvA G σ ta ds) (hl : ds.length ≤ 1000 := by first | decide | simp) : Gv G σ (tLst ta) (.lst ds) := fun H s Q q =>
  h H s _ fun vs H1 s1 hvs => ⟨by rw [dxAll_len hvs]; exact Nat.le_of_lt (Nat.lt_of_le_of_lt hl (by decide)), fun p np => q _ _ (s1.trans (Same.new np)) (.lst upd_same (dxAll_mono (Same.new np) hvs))⟩
theorem gv_tup {ta : TA} {ds : List D} (h : GvA G σ ta ds) (hl : ds.length ≤ 1000 := by first | decide | simp) : Gv G σ (tTup ta) (.tup ds) := fun H s Q q =>
  h H s _ fun vs H1 s1 hvs => ⟨by rw [dxAll_len hvs]; exact Nat.le_of_lt (Nat.lt_of_le_of_lt hl (by decide)), fun p np => q _ _ (s1.trans (Same.new np)) (.tup upd_same (dxAll_mono (Same.new np) hvs))⟩
theorem flat_rep (n : Nat) (v : V) : (List.replicate n [v]).flatten = List.replicate n v := by
  induction n with
  | zero => rfl
  | succ n ih => rw [List.replicate_succ, List.flatten_cons, ih, List.replicate_succ]; rfl
theorem gv_rep {ta : TA} {tn : TE} {k : Int} {d : D} (h : GvA G σ ta [d]) (hk : 0 ≤ k ∧ k ≤ 1000) (hn : ∀ (H : Hp) (Q : VK), Q (.int k) H → tn σ H Q) : Gv G σ (tOp rRep (tLst ta) tn) (.lst (List.replicate k.toNat d)) := fun H s Q q =>
  gv_lst h (by simp) H s _ fun v H1 s1 hv => hn _ _ (by
    cases hv with
    | lst ha hall =>
      cases hall with
      | cons h0 hr =>
        cases hr
        rename_i a v
        have : sizeLine = 16777216 := by decide
        refine ⟨a, k, _, rfl, rfl, ha, by omega, by omega, by show 1 * k.toNat ≤ sizeLine; omega, fun p np => ?_⟩
        rw [flat_rep]
        exact q _ _ (s1.trans (Same.new np)) (.lst upd_same (dxAll_rep (dx_mono (Same.new np) h0) _)))
theorem dx_lst {H : Hp} {v : V} {ds : List D} (h : Dx H v (.lst ds)) : ∃ a vs, v = .ref a ∧ H a = some (.lst vs) ∧ DxAll H vs ds := by
  cases h with
  | lst h a => exact ⟨_, _, rfl, h, a⟩
/-- a display, its reading kept closed -/
@[irreducible] def iE (te : TE) : TE := te
theorem iE_of {te : TE} {σ : L2.St} {H : Hp} {Q : VK} (h : te σ H Q) : iE te σ H Q := by unfold iE; exact h
theorem pe_iE {X : Cx} {e : Expr} {te : TE} (h : PE X e te) : PE X e (iE te) := by unfold iE; exact h
theorem rd_dat {te : TE} {H : Hp} {Q : VK} {d : D} (h : Gv H σ te d) (q : ∀ v H', Same H H' → Dx H' v d → Q v H') : iE te σ H Q := iE_of (h H (Same.refl _) Q q)
theorem rd_setD {te : TE} {H : Hp} {d : D} {B : TS} {Dn : Ends} {j : Nat} (h : Gv H σ te d) (q : ∀ v H', Same H H' → Dx H' v d → B Dn (σ.set j (some v)) H') : tSeq (tAsg (iE te) (gName j)) B Dn σ H := by
  unfold tSeq tAsg
  exact rd_dat h q
theorem same_off {H2 : Hp} {p : Addr} {o : HO} (n : H2 p = none) : Same H2 (off [p] (upd H2 p o)) := fun b u e => by
  have q : b ≠ p := ne_of_none e n
  rw [off_out (by simpa using q), upd_ne q]; exact e
theorem rd_cat {te : TE} {H : Hp} {Q : VK} {ds es : List D} {a : Addr} {vs : List V} (ha : H a = some (.lst vs)) (hall : DxAll H vs ds) (h : Gv H σ te (.lst es)) (hl : ds.length + es.length ≤ 1000)
    (q : ∀ p vs' H', H p = none → Same H H' → H' p = some (.lst vs') → DxAll (off [p] H') vs' (ds ++ es) → Q (.ref p) H') : iE te σ H fun y H2 => rCat (.ref a) y H2 Q := by
  refine rd_dat h fun v H1 s1 hv => ?_
  obtain ⟨b, ws, rfl, hb, hw⟩ := dx_lst hv
  have l1 := dxAll_len hall
  have l2 := dxAll_len hw
  refine ⟨a, b, vs, ws, rfl, rfl, s1 _ _ ha, hb, Nat.le_of_lt (Nat.lt_of_le_of_lt (by omega : _ ≤ 1000) (by decide)), fun p np => ?_⟩
  exact q p _ _ (s1.free np) (s1.trans (Same.new np)) upd_same (dxAll_mono (same_off np) (dxAll_app (dxAll_mono s1 hall) hw))
theorem rd_catD {te : TE} {H : Hp} {ds es : List D} {B : TS} {Dn : Ends} {i j : Nat} {a : Addr} {vs : List V} (hσ : σ[i]? = some (some (.ref a))) (ha : H a = some (.lst vs)) (hall : DxAll H vs ds) (h : Gv H σ te (.lst es)) (hl : ds.length + es.length ≤ 1000)
    (q : ∀ p vs' H', H p = none → Same H H' → H' p = some (.lst vs') → DxAll (off [p] H') vs' (ds ++ es) → B Dn (σ.set j (some (.ref p))) H') : tSeq (tAsg (tOp rCat (tVar i) (iE te)) (gName j)) B Dn σ H := by
  unfold tSeq tAsg
  exact ⟨_, hσ, rd_cat ha hall h hl q⟩
theorem rd_setL {ta : TA} {H : Hp} {ds : List D} {B : TS} {Dn : Ends} {j : Nat} (h : GvA H σ ta ds) (hl : ds.length ≤ 1000) (q : ∀ p vs H', H p = none → Same H H' → H' p = some (.lst vs) → DxAll (off [p] H') vs ds → B Dn (σ.set j (some (.ref p))) H') : tSeq (tAsg (iE (tLst ta)) (gName j)) B Dn σ H := by
  unfold tSeq tAsg
  refine iE_of (h H (Same.refl _) _ fun vs H1 s1 hv => ⟨by rw [dxAll_len hv]; exact Nat.le_of_lt (Nat.lt_of_le_of_lt hl (by decide)), fun p np => ?_⟩)
  exact q p vs _ (s1.free np) (s1.trans (Same.new np)) upd_same (dxAll_mono (same_off np) hv)
theorem gv_dic : Gv G σ tDNewK .dic := fun H s Q q => fun p np => q _ _ (Same.new np) (.dic upd_same)
end
end Song

/-! ### Rg: what judged, spaced, widest, least_gap and widest_few refuse -/
namespace Song
open PySem L2
def tl1 (r : List D) (d : D) : Bool := match r with
  | [] => wholeD d
  | _ => false
/-- a tuple of a told form -/
def partD : D → Bool
  | .tup (.str s :: x :: r) =>
    if s = "wish" then (match r with
      | [y, z] => numsD x && (wholeD y && wholeD z)
      | _ => false)
    else if s = "sing" then (match r with
      | [] => (match x with
        | .non => true
        | d => wholeD d)
      | _ => false)
    else decide (s = "out") && tl1 r x
  | _ => false
/-- no long list as the second of a tuple -/
def Sml (d : D) : Prop := ∀ s ds r, d = .tup (s :: .lst ds :: r) → ds.length ≤ 1000
def singD (d : D) (many : Int) : Bool := match d with
  | .lst ds => ds.all wholeD && areSingers (ds.map intD) many
  | _ => false
section
variable {P : Program} {w : World} {K : PySem.W.Frag} {mg : Str → Option Value} {base : Heap}
theorem sing_sp {H : Hp} {v : V} {d : D} {many : Int} {Q : VK} (h : Dx H v d) (hl : ∀ ds, d = .lst ds → ds.length ≤ 1000) (q : ∀ H', Same H H' → Q (.bl (singD d many)) H') : sp_are_singers K [v, .int many] H Q E0 ∨ sp_are_singersN K [v, .int many] H Q E0 := by
  cases h with
  | lst h a =>
    rename_i aa vs ds
    by_cases e : ds.all wholeD = true
    · have ev := dxAll_ints a e
      rw [ev] at h
      refine .inl ⟨aa, ds.map intD, many, rfl, SqL.of h, by rw [List.length_map]; exact hl _ rfl, fun H' s => ?_⟩
      have z : singD (.lst ds) many = areSingers (ds.map intD) many := by show (ds.all wholeD && _) = _; rw [e, Bool.true_and]
      rw [← z]; exact q H' s
    · have e := Bool.eq_false_iff.mpr e
      have z : singD (.lst ds) many = false := by show (ds.all wholeD && _) = _; rw [e, Bool.false_and]
      rw [z] at q
      exact .inr ⟨_, many, rfl, .inr ⟨aa, vs, rfl, SqL.of h, by rw [dxAll_len a]; exact hl _ rfl, dxAll_kds a, by rw [dxAll_whole a]; exact e⟩, q⟩
  | non => exact .inr ⟨_, many, rfl, .inl ⟨_, .base .non, by decide⟩, q⟩
  | bl b => exact .inr ⟨_, many, rfl, .inl ⟨_, .base (.bl b), by decide⟩, q⟩
  | int i => exact .inr ⟨_, many, rfl, .inl ⟨_, .base (.int i), by decide⟩, q⟩
  | str x => exact .inr ⟨_, many, rfl, .inl ⟨_, .base (.str x), by decide⟩, q⟩
  | tup h a => exact .inr ⟨_, many, rfl, .inl ⟨_, .base (.tup h), by decide⟩, q⟩
  | dic h => exact .inr ⟨_, many, rfl, .inl ⟨_, .base (.dK h), by decide⟩, q⟩
theorem whole_sp {H : Hp} {v : V} {d : D} {Q : VK} (h : Dx H v d) (q : Q (.bl (wholeD d)) H) : sp_is_whole K [v] H Q E0 := ⟨v, _, rfl, dx_kd h, by rw [dx_whole h]; exact q⟩
def sp_is_partD : Sp := fun vs H Q _ => ∃ (v : V) (d : D), vs = [v] ∧ Dx H v d ∧ Sml d ∧ ∀ H', Same H H' → Q (.bl (partD d)) H'
theorem strD {s t : Str} (h : s ≠ t) : decide (V.str s = V.str t) = false := decide_eq_false fun z => h (by injection z)
theorem fnn_is_part (T : Tx K mg) : Fn P w K mg base "is_part" 3 sp_is_partD := by
  obtain ⟨fd, F⟩ := T.d_is_part
  refine ⟨_, fd, _, F.ok (CX := CX0) sc_is_part (fun vs H Q E h => ?_) (fun cdv A outer s H vs Q E hr h => ?_), T.g_is_part, F.kp, F.bindsN fun _ _ _ _ _ _ us hl => match us, hl with | [_], _ => rfl⟩
  · obtain ⟨v, d, rfl, _⟩ := h; rfl
  · obtain ⟨v, d, rfl, hd, hm, q⟩ := h
    refine ⟨_, PSs.nox (pss_cons (ps_if (PW.pt (pw_or (pt_not (pt_val (pe_callB (show CallR _ _ (rIsi K) from call_isi) (by rfl) T.isinstance (by decide +kernel) (pa_cons (pv 0) (pa_cons (pe_gt (n := "tuple") T.tuple (by rfl) (by decide +kernel)) pa_nil))))) (pw_or (pt_cmpR op_lt (pe_callB (show CallR _ _ (rLenQ K) from call_len_seq) (by rfl) T.len (by decide +kernel) (pa_cons (pv 0) pa_nil)) pe_int (nomark _)) (pw_or1 (pt_not (pt_val (pe_callB (show CallR _ _ (rIsi K) from call_isi) (by rfl) T.isinstance (by decide +kernel) (pa_cons (pe_ix (show IxR _ (rIxT K) from ix_tup) (pv 0) pe_int (fun _ _ => rfl)) (pa_cons (pe_gt (n := "str") T.str (by rfl) (by decide +kernel)) pa_nil))))))))) (pss_one (ps_ret pe_bl)) pss_nil)
      (pss_cons (ps_if (pt_cmpR op_eq (pe_ix (show IxR _ (rIxT K) from ix_tup) (pv 0) pe_int (fun _ _ => rfl)) pe_str (nomark _)) (pss_one (ps_ret (pe_and (pe_cmpR op_eq (pe_callB (show CallR _ _ (rLenQ K) from call_len_seq) (by rfl) T.len (by decide +kernel) (pa_cons (pv 0) pa_nil)) pe_int (nomark _)) (pe_and (pe_iFn (pe_fn (fn_are_numbers T) (hr.mono (by first | decide | omega)) (by rfl) (pa_cons (pe_ix (show IxR _ (rIxT K) from ix_tup) (pv 0) pe_int (fun _ _ => rfl)) pa_nil))) (pe_and (pe_fn (fn_is_whole T) (hr.mono (by first | decide | omega)) (by rfl) (pa_cons (pe_ix (show IxR _ (rIxT K) from ix_tup) (pv 0) pe_int (fun _ _ => rfl)) pa_nil)) (pe_one (pe_fn (fn_is_whole T) (hr.mono (by first | decide | omega)) (by rfl) (pa_cons (pe_ix (show IxR _ (rIxT K) from ix_tup) (pv 0) pe_int (fun _ _ => rfl)) pa_nil)))))))) pss_nil)
      (pss_cons (ps_if (pt_cmpR op_eq (pe_ix (show IxR _ (rIxT K) from ix_tup) (pv 0) pe_int (fun _ _ => rfl)) pe_str (nomark _)) (pss_one (ps_ret (pe_and (pe_cmpR op_eq (pe_callB (show CallR _ _ (rLenQ K) from call_len_seq) (by rfl) T.len (by decide +kernel) (pa_cons (pv 0) pa_nil)) pe_int (nomark _)) (pe_one (pe_or (pe_cmpR op_isN (pe_ix (show IxR _ (rIxT K) from ix_tup) (pv 0) pe_int (fun _ _ => rfl)) pe_non (nomark _)) (pe_one (pe_fn (fn_is_whole T) (hr.mono (by first | decide | omega)) (by rfl) (pa_cons (pe_ix (show IxR _ (rIxT K) from ix_tup) (pv 0) pe_int (fun _ _ => rfl)) pa_nil)))))))) pss_nil)
      (pss_one (ps_ret (pe_and (pe_cmpR op_eq (pe_ix (show IxR _ (rIxT K) from ix_tup) (pv 0) pe_int (fun _ _ => rfl)) pe_str (nomark _)) (pe_and (pe_cmpR op_eq (pe_callB (show CallR _ _ (rLenQ K) from call_len_seq) (by rfl) T.len (by decide +kernel) (pa_cons (pv 0) pa_nil)) pe_int (nomark _)) (pe_one (pe_fn (fn_is_whole T) (hr.mono (by first | decide | omega)) (by rfl) (pa_cons (pe_ix (show IxR _ (rIxT K) from ix_tup) (pv 0) pe_int (fun _ _ => rfl)) pa_nil)))))))))), ?_⟩
    have kt : Kd K H v (kindD d) := dx_kd hd
    refine ⟨_, rfl, _, _, _, _, _, rfl, .ty _, kt, (kit_kd kt).2.2.2.1, _, rfl, ?_⟩
    have no : ∀ e : D, (∀ ds, e ≠ .tup ds) → d = e → partD d = false ∧ (kindD d == "tuple") = false := fun e he z => by
      subst z
      refine ⟨?_, beq_eq_false_iff_ne.mpr (kindD_tup he)⟩
      unfold partD
      split
      · exact absurd rfl (he _)
      · rfl
    cases hd with
    | tup ht hall =>
      rename_i t vs ds
      refine iteF ?_
      refine ⟨_, rfl, t, _, rfl, .inr (SqT.of ht), _, _, rfl, rfl, _, rfl, ?_⟩
      cases hall with
      | nil => exact iteT (q _ (Same.refl _))
      | cons h0 hr =>
        rename_i v0 d0 vs ds
        cases hr with
        | nil =>
          have z : partD (.tup [d0]) = false := by cases d0 <;> rfl
          rw [z] at q
          exact iteT (q _ (Same.refl _))
        | cons h1 hr =>
          rename_i v1 d1 vs ds
          have hl : ¬ ((((v0 :: v1 :: vs).length : Nat) : Int) < 2) := by simp only [List.length_cons]; omega
          rw [decide_eq_false hl]
          refine iteF ?_
          have k0 : Kd K H v0 (kindD d0) := dx_kd h0
          refine ⟨_, rfl, t, _, _, _, rfl, rfl, SqT.of ht, atI_nat (j := 0) rfl, _, _, _, _, _, rfl, .ty _, k0, (kit_kd k0).2.2.2.2, _, rfl, ?_⟩
          have nos : (∀ s, d0 ≠ .str s) → partD (.tup (d0 :: d1 :: ds)) = false ∧ (kindD d0 == "str") = false := fun he =>
            ⟨by cases d0 <;> first | rfl | exact absurd rfl (he _), beq_eq_false_iff_ne.mpr (kindD_str he)⟩
          cases h0 with
          | str s =>
            refine iteF ?_
            refine ⟨_, rfl, t, _, _, _, rfl, rfl, SqT.of ht, atI_nat (j := 0) rfl, rfl, _, rfl, ?_⟩
            by_cases e1 : s = ("wish" : Str)
            · subst e1
              rw [decide_eq_true rfl]
              refine iteT ⟨_, rfl, t, _, rfl, .inr (SqT.of ht), rfl, _, rfl, ?_⟩
              cases hr with
              | nil => exact iteF (q _ (Same.refl _))
              | cons h2 hr =>
                rename_i v2 d2 vs ds
                cases hr with
                | nil => exact iteF (q _ (Same.refl _))
                | cons h3 hr =>
                  rename_i v3 d3 vs ds
                  cases hr with
                  | cons h4 hr =>
                    rw [decide_eq_false (fun z => by injection z with z; simp only [List.length_cons] at z; omega)]
                    exact iteF (q _ (Same.refl _))
                  | nil =>
                    refine iteT ?_
                    refine rd_nums h1 (fun ds' e => hm _ ds' _ (by rw [e])) (fun R hR => ⟨_, rfl, t, _, _, _, rfl, rfl, SqT.of ht, atI_nat (j := 1) rfl, hR⟩) fun H1 s1 => ⟨_, rfl, ?_⟩
                    have q : ∀ H', Same H H' → Q (.bl (numsD d1 && (wholeD d2 && wholeD d3))) H' := q
                    cases en : numsD d1 with
                    | false => rw [en] at q; exact iteF (q _ s1)
                    | true =>
                      rw [en] at q
                      refine iteT ⟨_, rfl, t, _, _, _, rfl, rfl, SqT.of (s1 _ _ ht), atI_nat (j := 2) rfl, _, _, rfl, dx_kd (dx_mono s1 h2), _, rfl, ?_⟩
                      rw [dx_whole h2]
                      cases en2 : wholeD d2 with
                      | false => rw [en2] at q; exact iteF (q _ s1)
                      | true =>
                        rw [en2] at q
                        exact iteT ⟨_, rfl, t, _, _, _, rfl, rfl, SqT.of (s1 _ _ ht), atI_nat (j := 3) rfl, whole_sp (dx_mono s1 h3) (q _ s1)⟩
            · rw [strD e1]
              refine iteF ⟨_, rfl, t, _, _, _, rfl, rfl, SqT.of ht, atI_nat (j := 0) rfl, rfl, _, rfl, ?_⟩
              by_cases e2 : s = ("sing" : Str)
              · subst e2
                rw [decide_eq_true rfl]
                refine iteT ⟨_, rfl, t, _, rfl, .inr (SqT.of ht), rfl, _, rfl, ?_⟩
                cases hr with
                | cons h2 hr =>
                  rw [decide_eq_false (fun z => by injection z with z; simp only [List.length_cons] at z; omega)]
                  exact iteF (q _ (Same.refl _))
                | nil =>
                  refine iteT ⟨_, rfl, t, _, _, _, rfl, rfl, SqT.of ht, atI_nat (j := 1) rfl, ?_⟩
                  have more : d1 ≠ .non → v1 ≠ V.non → ∃ v, (some (some (V.ref t)) : Option (Option V)) = some (some v) ∧ True := fun _ _ => ⟨_, rfl, trivial⟩
                  cases h1 with
                  | non => exact ⟨rfl, _, rfl, iteT (q _ (Same.refl _))⟩
                  | bl b => exact ⟨rfl, _, rfl, iteF ⟨_, rfl, t, _, _, _, rfl, rfl, SqT.of ht, atI_nat (j := 1) rfl, whole_sp (.bl b) (q _ (Same.refl _))⟩⟩
                  | int b => exact ⟨rfl, _, rfl, iteF ⟨_, rfl, t, _, _, _, rfl, rfl, SqT.of ht, atI_nat (j := 1) rfl, whole_sp (.int b) (q _ (Same.refl _))⟩⟩
                  | str b => exact ⟨rfl, _, rfl, iteF ⟨_, rfl, t, _, _, _, rfl, rfl, SqT.of ht, atI_nat (j := 1) rfl, whole_sp (.str b) (q _ (Same.refl _))⟩⟩
                  | lst b c => exact ⟨rfl, _, rfl, iteF ⟨_, rfl, t, _, _, _, rfl, rfl, SqT.of ht, atI_nat (j := 1) rfl, whole_sp (.lst b c) (q _ (Same.refl _))⟩⟩
                  | tup b c => exact ⟨rfl, _, rfl, iteF ⟨_, rfl, t, _, _, _, rfl, rfl, SqT.of ht, atI_nat (j := 1) rfl, whole_sp (.tup b c) (q _ (Same.refl _))⟩⟩
                  | dic b => exact ⟨rfl, _, rfl, iteF ⟨_, rfl, t, _, _, _, rfl, rfl, SqT.of ht, atI_nat (j := 1) rfl, whole_sp (.dic b) (q _ (Same.refl _))⟩⟩
              · rw [strD e2]
                refine iteF ⟨_, rfl, t, _, _, _, rfl, rfl, SqT.of ht, atI_nat (j := 0) rfl, rfl, _, rfl, ?_⟩
                have z : partD (.tup (.str s :: d1 :: ds)) = (decide (s = "out") && tl1 ds d1) := by
                  show (if s = "wish" then _ else if s = "sing" then _ else _) = _
                  rw [if_neg e1, if_neg e2]
                rw [z] at q
                by_cases e3 : s = ("out" : Str)
                · subst e3
                  rw [decide_eq_true rfl]
                  refine iteT ⟨_, rfl, t, _, rfl, .inr (SqT.of ht), rfl, _, rfl, ?_⟩
                  cases hr with
                  | cons h2 hr =>
                    rw [decide_eq_false (fun z => by injection z with z; simp only [List.length_cons] at z; omega)]
                    exact iteF (q _ (Same.refl _))
                  | nil => exact iteT ⟨_, rfl, t, _, _, _, rfl, rfl, SqT.of ht, atI_nat (j := 1) rfl, whole_sp h1 (q _ (Same.refl _))⟩
                · rw [decide_eq_false e3, Bool.false_and] at q
                  rw [strD e3]
                  exact iteF (q _ (Same.refl _))
          | _ =>
            obtain ⟨z1, z2⟩ := nos (fun s z => by cases z)
            rw [z1] at q
            exact iteT (q _ (Same.refl _))
    | _ =>
      obtain ⟨z1, z2⟩ := no _ (fun ds z => by cases z) rfl
      rw [z1] at q
      exact iteT (q _ (Same.refl _))
end
end Song

/-! ### St: strange values; tables kept -/
namespace Song
open PySem L2
theorem sq_nt {K : PySem.W.Frag} {H : Hp} {a : Addr} {xs : List V} (h : SqL K H a xs) : SqL K (nt H) a xs := by
  rcases h with (h | ⟨o, h⟩) | h
  · exact .inl (.inl (nt_of h fun _ z => by cases z))
  · exact .inl (.inr ⟨o, nt_of h fun _ z => by cases z⟩)
  · exact .inr h
theorem sqT_nt {K : PySem.W.Frag} {H : Hp} {a : Addr} {xs : List V} (h : SqT K H a xs) : SqT K (nt H) a xs := by
  rcases h with (h | ⟨o, h⟩) | h
  · exact .inl (.inl (nt_of h fun _ z => by cases z))
  · exact .inl (.inr ⟨o, nt_of h fun _ z => by cases z⟩)
  · exact .inr h
theorem kd_nt {K : PySem.W.Frag} {H : Hp} {v : V} {t : String} (h : Kd K H v t) : Kd K (nt H) v t := by
  generalize e : Value.type t = u at h
  cases h with
  | base b =>
    cases b with
    | non => cases e; exact .base .non
    | bl x => cases e; exact .base (.bl x)
    | int x => cases e; exact .base (.int x)
    | str x => cases e; exact .base (.str x)
    | flt x => cases e; exact .base (.flt x)
    | lst h => cases e; exact .base (.lst (nt_of h fun _ z => by cases z))
    | frz h => cases e; exact .base (.frz (nt_of h fun _ z => by cases z))
    | tup h => cases e; exact .base (.tup (nt_of h fun _ z => by cases z))
    | dK h => cases e; exact .base (.dK (nt_of h fun _ z => by cases z))
    | dT h => cases e; exact .base (.dT (nt_of h fun _ z => by cases z))
  | byt b => cases e; exact .byt b
  | set h => cases e; exact .set (nt_of h fun _ z => by cases z)
  | kList h c => cases e; exact .kList h c
  | kTuple h c => cases e; exact .kTuple h c
  | kDict h c => cases e; exact .kDict h c
  | fTuple h => cases e; exact .fTuple (nt_of h fun _ z => by cases z)
  | fDict h => cases e; exact .fDict (nt_of h fun _ z => by cases z)
mutual
theorem dp_nt {K : PySem.W.Frag} {H : Hp} : ∀ {v : V} {d : PyData}, Dp K H v d → Dp K (nt H) v d
  | _, _, .non => .non
  | _, _, .bl b => .bl b
  | _, _, .int i => .int i
  | _, _, .str x => .str x
  | _, _, .lst s a => .lst (sq_nt s) (dpAll_nt a)
  | _, _, .tup s a => .tup (sqT_nt s) (dpAll_nt a)
theorem dpAll_nt {K : PySem.W.Frag} {H : Hp} : ∀ {vs : List V} {ds : List PyData}, DpAll K H vs ds → DpAll K (nt H) vs ds
  | _, _, .nil => .nil
  | _, _, .cons d a => .cons (dp_nt d) (dpAll_nt a)
end
/-- no tables in it -/
def NT (G : Hp) : Prop := ∀ b o, G b = some o → ∀ ps, o ≠ .tbl ps
theorem NT.nt (H : Hp) : NT (nt H) := fun _ _ h => (nt_some h).2
theorem same_ext {G H H' : Hp} (n : NT G) (s : Same G H) (e : LamX.ExtN H H') : Same G H' := fun b o h => e b o (s b o h) (n b o h)
/-- no number from 0 on -/
def Strg (K : PySem.W.Frag) (H : Hp) (v : V) : Prop := (∃ t, Kd K H v t ∧ t ≠ "int") ∨ ∃ n : Int, v = .int n ∧ n < 0
theorem Strg.mono {K : PySem.W.Frag} {H H' : Hp} {v : V} (s : Same H H') (h : Strg K H v) : Strg K H' v := by
  rcases h with ⟨t, h, n⟩ | h
  · exact .inl ⟨t, kd_mono s h, n⟩
  · exact .inr h
theorem Strg.nt {K : PySem.W.Frag} {H : Hp} {v : V} (h : Strg K H v) : Strg K (nt H) v := by
  rcases h with ⟨t, h, n⟩ | h
  · exact .inl ⟨t, kd_nt h, n⟩
  · exact .inr h
theorem Strg.kd {K : PySem.W.Frag} {H : Hp} {v : V} (h : Strg K H v) : ∃ t, Kd K H v t := by
  rcases h with ⟨t, h, _⟩ | ⟨n, rfl, _⟩
  · exact ⟨t, h⟩
  · exact ⟨_, kd_int n⟩
end Song

/-! ### Rh: the doors' refusals -/
namespace Song
open PySem L2
def taleD (d : D) : Bool := match d with
  | .lst ds => decide (ds.length ≤ 30) && ds.all partD
  | _ => false
def songsD (d : D) : Bool := match d with
  | .lst ds => ds.all wholeD && (decide (ds.length ≤ 24) && (ds.map intD).all fun n => decide (0 ≤ n ∧ n < 6))
  | _ => false
def groupsD (d : D) (most : Int) : Bool := match d with
  | .lst ds => decide ((ds.length : Int) ≤ most) && ds.all fun e => singD e 6
  | _ => false
/-- no long lists in it -/
def Few (d : D) : Prop := ∀ ds, d = .lst ds → ds.length ≤ 1000
def fewB : D → Bool
  | .lst ds => decide (ds.length ≤ 1000)
  | _ => true
theorem fewB_ok {d : D} (h : fewB d = true) : Few d := fun ds e => by
  subst e
  exact of_decide_eq_true h
def smlB : D → Bool
  | .tup (_ :: .lst ds :: _) => decide (ds.length ≤ 1000)
  | _ => true
theorem smlB_ok {d : D} (h : smlB d = true) : Sml d := fun s ds r e => by
  subst e
  exact of_decide_eq_true h
theorem noList {d : D} {v : V} {H : Hp} (h : Dx H v d) : (∃ a vs ds, v = .ref a ∧ d = .lst ds ∧ H a = some (.lst vs) ∧ DxAll H vs ds) ∨ (kindD d == "list") = false ∧ ∀ ds, d ≠ .lst ds := by
  cases h with
  | lst h a => exact .inl ⟨_, _, _, rfl, rfl, h, a⟩
  | _ => exact .inr ⟨by rfl, fun _ z => by cases z⟩
section
variable {P : Program} {w : World} {K : PySem.W.Frag} {mg : Str → Option Value} {base : Heap}
def sp_judgedT (K : PySem.W.Frag) : Sp := fun vs H _ E => ∃ (n : Int) (v : V) (d : D), vs = [.int n, v] ∧ 1 ≤ n ∧ n ≤ 6 ∧ Dx H v d ∧ taleD d = false ∧ Few d ∧ (∀ ds, d = .lst ds → ∀ e ∈ ds, Sml e) ∧ ∀ H', Same H H' → E (.ref (He.ga K "BadTale")) none H'
theorem fnx_judged (T : Tx K mg) : FnX P w K mg base "judged" 6 (sp_judgedT K) := by
  obtain ⟨fd, F⟩ := T.d_judged
  refine ⟨_, fd, _, F.ok (CX := L2.CX P w) sc_judged (fun vs H Q E h => ?_) (fun cdv A outer s H vs Q E hr h => ?_), T.g_judged, F.kp, F.bindsN fun _ _ _ _ _ _ us hl => match us, hl with | [_, _], _ => rfl⟩
  · obtain ⟨n, v, d, rfl, _⟩ := h; rfl
  · obtain ⟨n, v, d, rfl, n1, n6, hd, ht, hf, hsm, q⟩ := h
    refine ⟨_, (pss_cons (ps_expr (pe_fn (fn_check_many T) (hr.mono (by first | decide | omega)) (by rfl) (pa_cons (pv 0) pa_nil)))
      (pss_cons (ps_if (PW.pt (pw_or (pt_not (pt_val (pe_callB (show CallR _ _ (rIsi K) from call_isi) (by rfl) T.isinstance (by decide +kernel) (pa_cons (pv 1) (pa_cons (pe_gt (n := "list") T.list (by rfl) (by decide +kernel)) pa_nil))))) (pw_or (pt_cmpR op_gt (pe_callB (show CallR _ _ (rLenQ K) from call_len_seq) (by rfl) T.len (by decide +kernel) (pa_cons (pv 1) pa_nil)) (pe_gi T.c_MOST_PARTS (by rfl)) (nomark _)) (pw_or1 (pt_not (pt_val (pe_callB (show CallR _ _ (rAll K) from cr_all (by rfl)) (by rfl) T.all (by decide +kernel) (pa_cons (pe_lc (own := [("part", 2)]) (g := (gName 2)) (tt := tYes) (by rfl) sc_judged.nd (show PI _ _ _ (iList K _) from pi_list (pv 1)) (blkOk_by (by kernel_rfl)) (fun _ _ _ _ _ => (pg_name (i := 2) sc_judged.nd rfl (by first | exact Or.inl rfl | exact Or.inr rfl))) (fun _ _ _ _ _ => pts_nil) (fun _ _ _ _ _ => (pe_fn (fnn_is_part T) (hr.mono (by first | decide | omega)) (by rfl) (pa_cons (pv 2) pa_nil)))) pa_nil)))))))) (pss_one (ps_rz rfl tkF T.x_BadTale (by rfl))) pss_nil)
      pss_never)), ?_⟩
    refine ⟨_, rfl, n, rfl, n1, n6, ?_⟩
    have kt : Kd K H v (kindD d) := dx_kd hd
    refine ⟨_, rfl, _, _, _, _, _, rfl, .ty _, kt, (kit_kd kt).2.2.1, _, rfl, ?_⟩
    rcases noList hd with ⟨a, vs, ds, rfl, rfl, ha, hall⟩ | ⟨hk, _⟩
    · refine iteF ⟨_, rfl, a, _, rfl, .inl (SqL.of ha), _, _, rfl, rfl, _, rfl, ?_⟩
      have hl := dxAll_len hall
      have hds := hf ds rfl
      by_cases h30 : ds.length ≤ 30
      · rw [decide_eq_false (by omega)]
        have hp : ds.all partD = false := by
          have z : (decide (ds.length ≤ 30) && ds.all partD) = false := ht
          rw [decide_eq_true h30, Bool.true_and] at z; exact z
        refine iteF ⟨_, rfl, a, rfl, ⟨_, SqL.of ha⟩, fun Dl nD => lc_pure walk_list sqL_mono (SqL.of ha) (fun i => ds[i]?.map fun e => V.bl (partD e)) nD (by omega) ?_ ?_⟩
        · rintro i x H1 H2 hi s1 ⟨rfl, hx⟩ k kn hk _
          obtain ⟨e, he, hxe⟩ := dxAll_get hall hx
          refine ⟨rfl, yes_of ⟨_, rfl, x, e, rfl, dx_mono s1 hxe, hsm ds rfl e (List.mem_of_getElem? he), fun H3 s3 => hk _ _ ?_ s3⟩⟩
          rw [he]; rfl
        · intro H1 s1 hD
          have e1 : (List.range vs.length).filterMap (fun i => ds[i]?.map fun e => V.bl (partD e)) = (ds.map partD).map V.bl := by
            rw [hl, range_map, List.map_map]; rfl
          refine ⟨_, ds.map partD, rfl, SqL.of (by rw [← e1]; exact hD), _, rfl, ?_⟩
          rw [List.all_map]
          rw [show (ds.all (id ∘ partD)) = false from hp]
          exact iteT (q _ s1)
      · rw [decide_eq_true (by omega)]
        exact iteT (q _ (Same.refl _))
    · rw [hk]
      exact iteT (q _ (Same.refl _))
def sp_check_songsX (K : PySem.W.Frag) : Sp := fun vs H _ E => ∃ (v : V) (d : D), vs = [v] ∧ Dx H v d ∧ songsD d = false ∧ Few d ∧ ∀ H', Same H H' → E (.ref (He.ga K "BadSongs")) none H'
theorem fnx_check_songs (T : Tx K mg) : FnX P w K mg base "check_songs" 3 (sp_check_songsX K) := by
  obtain ⟨fd, F⟩ := T.d_check_songs
  refine ⟨_, fd, _, F.ok (CX := L2.CX P w) sc_check_songs (fun vs H Q E h => ?_) (fun cdv A outer s H vs Q E hr h => ?_), T.g_check_songs, F.kp, F.bindsN fun _ _ _ _ _ _ us hl => match us, hl with | [_], _ => rfl⟩
  · obtain ⟨v, d, rfl, _⟩ := h; rfl
  · obtain ⟨v, d, rfl, hd, hs, hf, q⟩ := h
    refine ⟨_, (pss_one (ps_if (PW.pt (pw_or (pt_not (pt_val (pe_iFn (pe_fn (fn_are_numbers T) (hr.mono (by first | decide | omega)) (by rfl) (pa_cons (pv 0) pa_nil))))) (pw_or (pt_cmpR op_gt (pe_callB (show CallR _ _ (rLenQ K) from call_len_seq) (by rfl) T.len (by decide +kernel) (pa_cons (pv 0) pa_nil)) (pe_gi T.c_MOST_SONGS (by rfl)) (nomark _)) (pw_or1 (pt_not (pt_val (pe_callB (show CallR _ _ (rAll K) from cr_all (by rfl)) (by rfl) T.all (by decide +kernel) (pa_cons (pe_lc (own := [("one", 1)]) (g := (gName 1)) (tt := tYes) (by rfl) sc_check_songs.nd (show PI _ _ _ (iList K _) from pi_list (pv 0)) (blkOk_by (by kernel_rfl)) (fun _ _ _ _ _ => (pg_name (i := 1) sc_check_songs.nd rfl (by first | exact Or.inl rfl | exact Or.inr rfl))) (fun _ _ _ _ _ => pts_nil) (fun _ _ _ _ _ => (pe_chain op_le op_lt pe_int (pv 1) (pe_gi T.c_MOST_SINGERS (by rfl))))) pa_nil)))))))) (pss_one (ps_rz rfl tkF T.x_BadSongs (by rfl))) pss_nil)), ?_⟩
    refine rd_nums hd hf (fun R hR => ⟨_, rfl, hR⟩) fun H1 s1 => ⟨_, rfl, ?_⟩
    cases en : numsD d with
    | false => exact iteT (q _ s1)
    | true =>
      refine iteF ?_
      rcases noList hd with ⟨a, vs, ds, rfl, rfl, ha, hall⟩ | ⟨hk, no⟩
      · have en : ds.all wholeD = true := en
        have hl := dxAll_len hall
        have hds := hf ds rfl
        have ev := dxAll_ints hall en
        have ha1 : H1 a = some (.lst ((ds.map intD).map V.int)) := by rw [← ev]; exact s1 _ _ ha
        refine ⟨_, rfl, a, _, rfl, .inl (SqL.of ha1), _, _, rfl, rfl, _, rfl, ?_⟩
        rw [List.length_map, List.length_map]
        by_cases h24 : ds.length ≤ 24
        · rw [decide_eq_false (by omega)]
          have hp : (ds.map intD).all (fun n => decide (0 ≤ n ∧ n < 6)) = false := by
            have z : (ds.all wholeD && (decide (ds.length ≤ 24) && (ds.map intD).all fun n => decide (0 ≤ n ∧ n < 6))) = false := hs
            rw [en, decide_eq_true h24, Bool.true_and, Bool.true_and] at z; exact z
          refine iteF ⟨_, rfl, a, rfl, ⟨_, SqL.of ha1⟩, fun Dl nD => lc_map (fun x => .bl (inR 6 x)) (SqL.of ha1) nD (by rw [List.length_map, List.length_map]; omega) ?_ ?_ gname_mono⟩
          · intro i x H2 hx s2 k hk
            obtain ⟨n, rfl, _⟩ := int_at hx
            refine ⟨rfl, _, rfl, _, _, rfl, rfl, _, rfl, ?_⟩
            have hk2 : k (.bl (decide (0 ≤ n) && decide (n < 6))) H2 := hk H2 (Same.refl _)
            by_cases h0 : (0 : Int) ≤ n
            · rw [decide_eq_true h0] at hk2 ⊢
              exact iteT ⟨_, _, rfl, rfl, hk2⟩
            · rw [decide_eq_false h0] at hk2 ⊢
              exact iteF hk2
          intro H2 s2 hD
          refine ⟨_, ((ds.map intD).map V.int).map (inR 6), rfl, SqL.of (by rw [← bls_all]; exact hD), _, rfl, ?_⟩
          rw [all_id, inR_all, hp]
          exact iteT (q _ (s1.trans s2))
        · rw [decide_eq_true (by omega)]
          exact iteT (q _ s1)
      · exfalso
        cases d <;> first | (cases en; done) | exact no _ rfl
theorem fnx_spaced (T : Tx K mg) : FnX P w K mg base "spaced" 4 (fun vs H Q E => ∃ v g, vs = [v, g] ∧ sp_check_songsX K [v] H Q E) := by
  obtain ⟨fd, F⟩ := T.d_spaced
  refine ⟨_, fd, _, F.ok (CX := L2.CX P w) sc_spaced (fun vs H Q E h => ?_) (fun cdv A outer s H vs Q E hr h => ?_), T.g_spaced, F.kp, F.bindsN fun _ _ _ _ _ _ us hl => match us, hl with | [_, _], _ => rfl⟩
  · obtain ⟨v, g, rfl, _⟩ := h; rfl
  · obtain ⟨v, g, rfl, h⟩ := h
    refine ⟨_, (pss_cons (ps_expr (pe_fnx (fnx_check_songs T) (hr.mono (by first | decide | omega)) (by rfl) tkF (pa_cons (pv 0) pa_nil)))
      pss_never), ?_⟩
    obtain ⟨_, d, e, h⟩ := h
    injection e with e; subst e
    exact ⟨_, rfl, _, d, rfl, h⟩
def sp_spacedG (K : PySem.W.Frag) : Sp := fun vs H _ E => ∃ (a : Addr) (songs : List Int) (v : V), vs = [.ref a, v] ∧ SqL K H a (songs.map V.int) ∧ SongsOk songs ∧ Strg K H v ∧ ∀ H', Same H H' → E (.ref (He.ga K "BadGap")) none H'
theorem fny_spaced (T : Tx K mg) : FnX P w K mg base "spaced" 4 (sp_spacedG K) := by
  obtain ⟨fd, F⟩ := T.d_spaced
  refine ⟨_, fd, _, F.ok (CX := L2.CX P w) sc_spaced (fun vs H Q E h => ?_) (fun cdv A outer s H vs Q E hr h => ?_), T.g_spaced, F.kp, F.bindsN fun _ _ _ _ _ _ us hl => match us, hl with | [_, _], _ => rfl⟩
  · obtain ⟨a, songs, v, rfl, _⟩ := h; rfl
  · obtain ⟨a, songs, v, rfl, ha, hS, hv, q⟩ := h
    refine ⟨_, (pss_cons (ps_expr (pe_fn (fn_check_songs T) (hr.mono (by first | decide | omega)) (by rfl) (pa_cons (pv 0) pa_nil)))
      (pss_cons (ps_if (PW.pt (pw_or (pt_not (pt_val (pe_fn (fn_is_whole T) (hr.mono (by first | decide | omega)) (by rfl) (pa_cons (pv 1) pa_nil)))) (pw_or1 (pt_cmpR op_lt (pv 1) pe_int (nomark _))))) (pss_one (ps_rz rfl tkF T.x_BadGap (by rfl))) pss_nil)
      pss_never)), ?_⟩
    refine ⟨_, rfl, a, songs, rfl, ha, hS, fun H1 s1 => ?_⟩
    rcases hv.mono s1 with ⟨t, ht, hn⟩ | ⟨n, rfl, hn⟩
    · refine ⟨_, rfl, _, _, rfl, ht, _, rfl, ?_⟩
      rw [kd_not ht hn]
      exact iteT (q _ s1)
    · refine ⟨_, rfl, _, _, rfl, kd_int n, _, rfl, iteF ⟨_, rfl, _, _, rfl, rfl, _, rfl, ?_⟩⟩
      rw [decide_eq_true hn]
      exact iteT (q _ s1)
theorem fnx_widest (T : Tx K mg) : FnX P w K mg base "widest" 4 (sp_check_songsX K) := by
  obtain ⟨fd, F⟩ := T.d_widest
  refine ⟨_, fd, _, F.ok (CX := L2.CX P w) sc_widest (fun vs H Q E h => ?_) (fun cdv A outer s H vs Q E hr h => ?_), T.g_widest, F.kp, F.bindsN fun _ _ _ _ _ _ us hl => match us, hl with | [_], _ => rfl⟩
  · obtain ⟨v, d, rfl, _⟩ := h; rfl
  · obtain ⟨v, d, rfl, h⟩ := h
    refine ⟨_, (pss_cons (ps_expr (pe_fnx (fnx_check_songs T) (hr.mono (by first | decide | omega)) (by rfl) tkF (pa_cons (pv 0) pa_nil)))
      pss_never), ?_⟩
    exact ⟨_, rfl, v, d, rfl, h⟩
def sp_check_groupsX (K : PySem.W.Frag) : Sp := fun vs H _ E => ∃ (v : V) (d : D) (most : Int), vs = [v, .int most] ∧ Dx H v d ∧ groupsD d most = false ∧ Few d ∧ (∀ ds, d = .lst ds → ∀ e ∈ ds, Few e) ∧ ∀ H', Same H H' → E (.ref (He.ga K "BadSongs")) none H'
theorem fnx_check_groups (T : Tx K mg) : FnX P w K mg base "check_groups" 4 (sp_check_groupsX K) := by
  obtain ⟨fd, F⟩ := T.d_check_groups
  refine ⟨_, fd, _, F.ok (CX := L2.CX P w) sc_check_groups (fun vs H Q E h => ?_) (fun cdv A outer s H vs Q E hr h => ?_), T.g_check_groups, F.kp, F.bindsN fun _ _ _ _ _ _ us hl => match us, hl with | [_, _], _ => rfl⟩
  · obtain ⟨v, d, most, rfl, _⟩ := h; rfl
  · obtain ⟨v, d, most, rfl, hd, hs, hf, hff, q⟩ := h
    refine ⟨_, (pss_cons (ps_if (PW.pt (pw_or (pt_not (pt_val (pe_callB (show CallR _ _ (rIsi K) from call_isi) (by rfl) T.isinstance (by decide +kernel) (pa_cons (pv 0) (pa_cons (pe_gt (n := "list") T.list (by rfl) (by decide +kernel)) pa_nil))))) (pw_or1 (pt_cmpR op_gt (pe_callB (show CallR _ _ (rLenQ K) from call_len_seq) (by rfl) T.len (by decide +kernel) (pa_cons (pv 0) pa_nil)) (pv 1) (nomark _))))) (pss_one (ps_rz rfl tkF T.x_BadSongs (by rfl))) pss_nil)
      (pss_one (ps_if (pt_not (pt_val (pe_callB (show CallR _ _ (rAll K) from cr_all (by rfl)) (by rfl) T.all (by decide +kernel) (pa_cons (pe_lc (own := [("one", 2)]) (g := (gName 2)) (tt := tYes) (by rfl) sc_check_groups.nd (show PI _ _ _ (iList K _) from pi_list (pv 0)) (blkOk_by (by kernel_rfl)) (fun _ _ _ _ _ => (pg_name (i := 2) sc_check_groups.nd rfl (by first | exact Or.inl rfl | exact Or.inr rfl))) (fun _ _ _ _ _ => pts_nil) (fun _ _ _ _ _ => (pe_alt (pe_fn (fn_are_singers T) (hr.mono (by first | decide | omega)) (by rfl) (pa_cons (pv 2) (pa_cons (pe_gi T.c_MOST_SINGERS (by rfl)) pa_nil))) (pe_fn (fnn_are_singers T) (hr.mono (by first | decide | omega)) (by rfl) (pa_cons (pv 2) (pa_cons (pe_gi T.c_MOST_SINGERS (by rfl)) pa_nil)))))) pa_nil)))) (pss_one (ps_rz rfl tkF T.x_BadSongs (by rfl))) pss_nil))), ?_⟩
    have kt : Kd K H v (kindD d) := dx_kd hd
    refine ⟨_, rfl, _, _, _, _, _, rfl, .ty _, kt, (kit_kd kt).2.2.1, _, rfl, ?_⟩
    rcases noList hd with ⟨a, vs, ds, rfl, rfl, ha, hall⟩ | ⟨hk, _⟩
    · refine iteF ⟨_, rfl, a, _, rfl, .inl (SqL.of ha), _, rfl, _, _, rfl, rfl, _, rfl, ?_⟩
      have hl := dxAll_len hall
      have hds := hf ds rfl
      by_cases hm : (ds.length : Int) ≤ most
      · rw [decide_eq_false (by omega)]
        have hp : ds.all (fun e => singD e 6) = false := by
          have z : (decide ((ds.length : Int) ≤ most) && ds.all fun e => singD e 6) = false := hs
          rw [decide_eq_true hm, Bool.true_and] at z; exact z
        refine iteF ⟨_, rfl, a, rfl, ⟨_, SqL.of ha⟩, fun Dl nD => lc_pure walk_list sqL_mono (SqL.of ha) (fun i => ds[i]?.map fun e => V.bl (singD e 6)) nD (by omega) ?_ ?_⟩
        · rintro i x H1 H2 hi s1 ⟨rfl, hx⟩ k kn hk _
          obtain ⟨e, he, hxe⟩ := dxAll_get hall hx
          have key : sp_are_singers K [x, .int 6] H2 k E0 ∨ sp_are_singersN K [x, .int 6] H2 k E0 := sing_sp (dx_mono s1 hxe) (hff ds rfl e (List.mem_of_getElem? he)) fun H3 s3 => hk _ _ (by rw [he]; rfl) s3
          rcases key with key | key
          · exact ⟨rfl, yes_of (.inl ⟨_, rfl, key⟩)⟩
          · exact ⟨rfl, yes_of (.inr ⟨_, rfl, key⟩)⟩
        · intro H1 s1 hD
          have e1 : (List.range vs.length).filterMap (fun i => ds[i]?.map fun e => V.bl (singD e 6)) = (ds.map fun e => singD e 6).map V.bl := by
            rw [hl, range_map, List.map_map]; rfl
          refine ⟨_, ds.map fun e => singD e 6, rfl, SqL.of (by rw [← e1]; exact hD), _, rfl, ?_⟩
          rw [List.all_map]
          rw [show (ds.all (id ∘ fun e => singD e 6)) = false from hp]
          exact iteT (q _ s1)
      · rw [decide_eq_true (by omega)]
        exact iteT (q _ (Same.refl _))
    · rw [hk]
      exact iteT (q _ (Same.refl _))
theorem fnx_least_gap (T : Tx K mg) : FnX P w K mg base "least_gap" 5 (fun vs H Q E => ∃ v o, vs = [v, o] ∧ sp_check_groupsX K [v, .int 24] H Q E) := by
  obtain ⟨fd, F⟩ := T.d_least_gap
  refine ⟨_, fd, _, F.ok (CX := L2.CX P w) sc_least_gap (fun vs H Q E h => ?_) (fun cdv A outer s H vs Q E hr h => ?_), T.g_least_gap, F.kp, F.bindsN fun _ _ _ _ _ _ us hl => match us, hl with | [_, _], _ => rfl⟩
  · obtain ⟨v, g, rfl, _⟩ := h; rfl
  · obtain ⟨v, g, rfl, h⟩ := h
    refine ⟨_, (pss_cons (ps_expr (pe_fnx (fnx_check_groups T) (hr.mono (by first | decide | omega)) (by rfl) tkF (pa_cons (pv 0) (pa_cons (pe_gi T.c_MOST_SONGS (by rfl)) pa_nil))))
      pss_never), ?_⟩
    obtain ⟨v', d, m, e, h⟩ := h
    injection e with e1 e2; subst e1
    injection e2 with e2 _; injection e2 with e2; subst e2
    exact ⟨_, rfl, _, d, _, rfl, h⟩
theorem fnx_widest_few (T : Tx K mg) : FnX P w K mg base "widest_few" 5 (fun vs H Q E => ∃ v, vs = [v] ∧ sp_check_groupsX K [v, .int 5] H Q E) := by
  obtain ⟨fd, F⟩ := T.d_widest_few
  refine ⟨_, fd, _, F.ok (CX := L2.CX P w) sc_widest_few (fun vs H Q E h => ?_) (fun cdv A outer s H vs Q E hr h => ?_), T.g_widest_few, F.kp, F.bindsN fun _ _ _ _ _ _ us hl => match us, hl with | [_], _ => rfl⟩
  · obtain ⟨v, rfl, _⟩ := h; rfl
  · obtain ⟨v, rfl, h⟩ := h
    refine ⟨_, (pss_cons (ps_expr (pe_fnx (fnx_check_groups T) (hr.mono (by first | decide | omega)) (by rfl) tkF (pa_cons (pv 0) (pa_cons (pe_gi T.c_FEW (by rfl)) pa_nil))))
      pss_never), ?_⟩
    obtain ⟨v', d, m, e, h⟩ := h
    injection e with e1 e2; subst e1
    injection e2 with e2 _; injection e2 with e2; subst e2
    exact ⟨_, rfl, _, d, _, rfl, h⟩
/-- no order of so many -/
def NoOrd (d : D) (n : Nat) : Prop := numsD d = true → ∀ ds, d = .lst ds → ¬ (ds.map intD).Perm (upto n)
def sp_least_gapO (K : PySem.W.Frag) : Sp := fun vs H _ E => ∃ (a : Addr) (v : V) (cs : List V) (R : List (List Int)) (d : D), vs = [.ref a, v] ∧ SqL K H a cs ∧ Rows K H cs R ∧ GrOk R ∧ R.length ≤ 24 ∧ Dx H v d ∧ Few d ∧ NoOrd d R.length ∧ ∀ H', Same H H' → E (.ref (He.ga K "BadOrder")) none H'
theorem fny_least_gap (T : Tx K mg) : FnX P w K mg base "least_gap" 5 (sp_least_gapO K) := by
  obtain ⟨fd, F⟩ := T.d_least_gap
  refine ⟨_, fd, _, F.ok (CX := L2.CX P w) sc_least_gap (fun vs H Q E h => ?_) (fun cdv A outer s H vs Q E hr h => ?_), T.g_least_gap, F.kp, F.bindsN fun _ _ _ _ _ _ us hl => match us, hl with | [_, _], _ => rfl⟩
  · obtain ⟨a, v, cs, R, d, rfl, _⟩ := h; rfl
  · obtain ⟨a, v, cs, R, d, rfl, ha, hR, hG, h24, hd, hf, hno, q⟩ := h
    refine ⟨_, (pss_cons (ps_expr (pe_fn (fn_check_groups T) (hr.mono (by first | decide | omega)) (by rfl) (pa_cons (pv 0) (pa_cons (pe_gi T.c_MOST_SONGS (by rfl)) pa_nil))))
      (pss_cons (ps_if (PW.pt (pw_or (pt_not (pt_val (pe_iFn (pe_fn (fn_are_numbers T) (hr.mono (by first | decide | omega)) (by rfl) (pa_cons (pv 1) pa_nil))))) (pw_or1 (pt_cmpR (show OpR _ _ (rNeD K) from op_neD hr.units) (pe_callB (show CallR _ _ (rSortedI K) from cr_sortedI) (by rfl) T.sorted (by decide +kernel) (pa_cons (pv 1) pa_nil)) (pe_listRg (by rfl) (by rfl) T.list (prg_1 (by rfl) T.range (pe_callB (show CallR _ _ (rLenQ K) from call_len_seq) (by rfl) T.len (by decide +kernel) (pa_cons (pv 0) pa_nil)))) (nomark _))))) (pss_one (ps_rz rfl tkF T.x_BadOrder (by rfl))) pss_nil)
      pss_never)), ?_⟩
    refine ⟨_, rfl, a, cs, R, _, rfl, ha, hR, hG, by omega, by omega, fun H1 s1 => ?_⟩
    refine rd_nums (dx_mono s1 hd) hf (fun R hR => ⟨_, rfl, hR⟩) fun H2 s2 => ⟨_, rfl, ?_⟩
    have s02 := s1.trans s2
    cases en : numsD d with
    | false => exact iteT (q _ s02)
    | true =>
      refine iteF ?_
      rcases noList hd with ⟨b, vs, ds, rfl, rfl, hb, hall⟩ | ⟨hk, no⟩
      · have en' : ds.all wholeD = true := en
        have hds := hf ds rfl
        have ev := dxAll_ints hall en'
        have hb2 : H2 b = some (.lst ((ds.map intD).map V.int)) := by rw [← ev]; exact s02 _ _ hb
        refine ⟨_, rfl, b, ds.map intD, rfl, SqL.of hb2, fun ns p pe pw np => ?_⟩
        refine to_new np fun H3 s3 hp3 => ?_
        refine ⟨_, rfl, a, _, rfl, .inl ((s02.trans s3).seq ha), _, rfl, ⟨by decide, by decide, by omega, by have := hR.1; omega, by have := hR.1; omega⟩, fun r nr => ?_⟩
        rw [rg0, hR.1]
        refine to_new nr fun H4 s4 hr4 => ?_
        refine ⟨_, _, dp_ints (SqL.of (s4 _ _ hp3)), dp_ints (SqL.of hr4), (shp_ints _).ok, (shp_ints _).ok, _, rfl, ?_⟩
        rw [eqv_intsD, decide_eq_false (fun z => hno en ds rfl (by rw [← z]; exact pe.symm))]
        exact iteT (q _ ((s02.trans s3).trans s4))
      · exfalso
        cases d <;> first | (cases en; done) | exact no _ rfl
end
end Song

/-! ### Dv: written data as lists of numbers, rows, tales -/
namespace Song
open PySem L2
def intsD (ns : List Int) : D := .lst (ns.map D.int)
def rowsD (R : List (List Int)) : D := .lst (R.map intsD)
def optDx : Option Int → D
  | none => .non
  | some n => .int n
def Part.toD : Part → D
  | .wish ss n r => .tup [.str "wish", intsD ss, .int n, .int r]
  | .sing o => .tup [.str "sing", optDx o]
  | .out n => .tup [.str "out", .int n]
def taleDs (t : List Part) : D := .lst (t.map Part.toD)
theorem dxAll_intsV {H : Hp} : ∀ {vs : List V} {ns : List Int}, DxAll H vs (ns.map D.int) → vs = ns.map V.int
  | _, [], .nil => rfl
  | _, n :: r, .cons h a => by
    rw [dxAll_intsV a]
    cases h; rfl
theorem dx_ints {H : Hp} {v : V} {ns : List Int} (h : Dx H v (intsD ns)) : ∃ a, v = .ref a ∧ H a = some (.lst (ns.map V.int)) := by
  obtain ⟨a, vs, e, h, x⟩ := dx_lst h
  exact ⟨a, e, by rw [h, dxAll_intsV x]⟩
theorem dxAll_rows {K : PySem.W.Frag} {H : Hp} : ∀ {vs : List V} {R : List (List Int)}, DxAll H vs (R.map intsD) → ∀ (i : Nat) v, vs[i]? = some v → RowAt K H v (R.getD i [])
  | _, [], .nil, i, v, e => by simp at e
  | _, r :: R, .cons h a, 0, v, e => by
    obtain ⟨b, e1, hb⟩ := dx_ints h
    simp at e
    exact ⟨b, by rw [← e, e1], SqL.of hb⟩
  | _, r :: R, .cons h a, i + 1, v, e => by
    have := dxAll_rows (K := K) a i v (by simpa using e)
    simpa using this
theorem dx_rows {K : PySem.W.Frag} {H : Hp} {v : V} {R : List (List Int)} (h : Dx H v (rowsD R)) : ∃ a cs, v = .ref a ∧ H a = some (.lst cs) ∧ Rows K H cs R := by
  obtain ⟨a, vs, e, h, x⟩ := dx_lst h
  exact ⟨a, vs, e, h, by rw [dxAll_len x, List.length_map], dxAll_rows x⟩
theorem dx_part {H : Hp} {v : V} {p : Part} (h : Dx H v p.toD) : PartAt H v p := by
  cases p with
  | wish ss n r =>
    cases h with
    | tup ht x =>
      cases x with
      | cons h0 x =>
        cases x with
        | cons h1 x =>
          cases x with
          | cons h2 x =>
            cases x with
            | cons h3 x =>
              cases x
              obtain ⟨b, e, hb⟩ := dx_ints h1
              subst e
              cases h0; cases h2; cases h3
              exact ⟨b, ht, hb⟩
  | sing o =>
    cases h with
    | tup ht x =>
      cases x with
      | cons h0 x =>
        cases x with
        | cons h1 x =>
          cases x
          cases h0
          cases o <;> (cases h1; exact ht)
  | out n =>
    cases h with
    | tup ht x =>
      cases x with
      | cons h0 x =>
        cases x with
        | cons h1 x =>
          cases x
          cases h0; cases h1
          exact ht
theorem dxAll_parts {H : Hp} : ∀ {vs : List V} {t : List Part}, DxAll H vs (t.map Part.toD) → Parts H vs t
  | _, [], .nil => trivial
  | _, _ :: _, .cons h a => ⟨dx_part h, dxAll_parts a⟩
theorem dx_tale {K : PySem.W.Frag} {H : Hp} {v : V} {t : List Part} (h : Dx H v (taleDs t)) (ok : TaleOk t) : ∃ a, v = .ref a ∧ TaleIn K H a t := by
  obtain ⟨a, vs, e, h, x⟩ := dx_lst h
  exact ⟨a, e, vs, SqL.of h, dxAll_parts x, ok⟩
end Song

/-! ### Ew: evenings by short words; tables beside them -/
namespace Song
open PySem L2
structure EvG (K : PySem.W.Frag) (S : List Addr) (H : Hp) (p : Addr) (A : Ad) (st : EvS) : Prop where
  ev : Ev K S H p A st
  ok : EvOk st
  eb : EvB st
abbrev EvA (K : PySem.W.Frag) (H : Hp) (p : Addr) (A : Ad) (st : EvS) : Prop := EvG K (own p A) H p A st
theorem EvG.mono {K : PySem.W.Frag} {S : List Addr} {H H' : Hp} {p : Addr} {A : Ad} {st : EvS} (s : Same H H') (e : EvG K S H p A st) : EvG K S H' p A st := ⟨e.ev.mono s, e.ok, e.eb⟩
theorem EvG.out_S {K : PySem.W.Frag} {S : List Addr} {H : Hp} {p : Addr} {A : Ad} {st : EvS} {a : Addr} (e : EvG K S H p A st) (n : H a = none) : a ∉ S := new_out e.ev.dom n
theorem EvG.out_of {K : PySem.W.Frag} {S : List Addr} {H : Hp} {p : Addr} {A : Ad} {st : EvS} {a : Addr} (e : EvG K S H p A st) (n : H a = none) : a ∉ own p A := fun z => e.out_S n (e.ev.sub a z)
/-- an evening's own objects are instances and lists -/
theorem EvG.kind {K : PySem.W.Frag} {S : List Addr} {H : Hp} {p : Addr} {A : Ad} {st : EvS} (e : EvG K S H p A st) : ∀ a ∈ own p A, (∃ xs, H a = some (.lst xs)) ∨ ∃ C dx fs, H a = some (.ins C dx fs) := fun a ha => by
  obtain ⟨⟨cs, c, _⟩, _⟩ := e.ev
  unfold own at ha
  simp only [List.mem_cons, List.not_mem_nil, or_false] at ha
  obtain ⟨dx, hp⟩ := c.pp
  rcases ha with e | e | e | e | e
  · rw [e]; exact .inr ⟨_, _, _, hp⟩
  · rw [e]; exact .inl ⟨_, c.la⟩
  · rw [e]; exact .inl ⟨_, c.ro⟩
  · rw [e]; exact .inl ⟨_, c.wa⟩
  · rw [e]; exact .inl ⟨_, c.ca⟩
theorem EvG.nt {K : PySem.W.Frag} {H : Hp} {p : Addr} {A : Ad} {st : EvS} (e : EvA K H p A st) : EvA K (nt H) p A st := by
  obtain ⟨⟨⟨cs, c, q⟩, sub, dom, few⟩, ok, eb⟩ := id e
  obtain ⟨⟨dx, h1⟩, h2, h3, h4, h5, nd⟩ := c
  have L : ∀ {b : Addr} {xs : List V}, H b = some (.lst xs) → Song.nt H b = some (.lst xs) := fun h => nt_of h fun _ z => by cases z
  refine ⟨⟨⟨cs, ⟨⟨dx, nt_of h1 fun _ z => by cases z⟩, L h2, L h3, L h4, L h5, nd⟩, ?_⟩, sub, fun a ha => ?_, few⟩, ok, eb⟩
  · have ex : ∀ (cs : List V) (ps : List Part), Parts (off (own p A) H) cs ps → Parts (off (own p A) (Song.nt H)) cs ps := by
      have key : ∀ b o, (∀ ps, o ≠ HO.tbl ps) → off (own p A) H b = some o → off (own p A) (Song.nt H) b = some o := fun b o n h => by
        obtain ⟨h1, h2⟩ := off_some h
        rw [off_out h1]; exact nt_of h2 n
      have one : ∀ (v : V) (pt : Part), PartAt (off (own p A) H) v pt → PartAt (off (own p A) (Song.nt H)) v pt := fun v pt h => by
        cases v with
        | ref t =>
          cases pt with
          | wish ss n r =>
            obtain ⟨b, k1, k2⟩ := h
            exact ⟨b, key _ _ (fun _ z => by cases z) k1, key _ _ (fun _ z => by cases z) k2⟩
          | sing o => exact key _ _ (fun _ z => by cases z) h
          | out n => exact key _ _ (fun _ z => by cases z) h
        | _ => exact h.elim
      intro cs
      induction cs with
      | nil => intro ps h; cases ps with
        | nil => trivial
        | cons _ _ => exact h.elim
      | cons v r ih => intro ps h; cases ps with
        | nil => exact h.elim
        | cons pt rs => exact ⟨one _ _ h.1, ih _ h.2⟩
    exact ex _ _ q
  · rcases e.kind a ha with ⟨xs, h⟩ | ⟨C, dx, fs, h⟩
    · exact ⟨_, L h⟩
    · exact ⟨_, nt_of h fun _ z => by cases z⟩
/-- tables lie outside of an evening -/
theorem tabs_fra {T : List (Addr × Str)} {K : PySem.W.Frag} {S : List Addr} {H H' : Hp} {p : Addr} {A : Ad} {st : EvS} (t : LamX.Tabs T H) (e : EvG K S H p A st) (f : Fra (own p A) H H') : LamX.Tabs T H' := fun x hx => by
  obtain ⟨ps, h1, h2, h3⟩ := t x hx
  have o1 : x.1 ∉ own p A := fun z => by
    rcases e.kind _ z with ⟨xs, h⟩ | ⟨C, dx, fs, h⟩ <;> (rw [h1] at h; cases h)
  refine ⟨ps, f _ _ o1 h1, h2, fun pos cv hc => ?_⟩
  obtain ⟨c, e1, e2⟩ := h3 pos cv hc
  have o2 : c ∉ own p A := fun z => by
    rcases e.kind _ z with ⟨xs, h⟩ | ⟨C, dx, fs, h⟩ <;> (rw [e2] at h; cases h)
  exact ⟨c, e1, f _ _ o2 e2⟩
section
variable {K : PySem.W.Frag} {S : List Addr} {H : Hp} {p : Addr} {A : Ad} {st : EvS} {σ : L2.St} {Q : VK} {i : Nat}
/-- Evening(n) -/
theorem rd_new {n : Int} {ta : TA} (h1 : 1 ≤ n) (h6 : n ≤ 6) (h : ∀ H' p A, Same H H' → EvA K H' p A (evNew n) → (∀ a ∈ own p A, H a = none) → Q (.ref p) H') (hta : ∀ (R : List V → Hp → Prop), R [.int n] H → ta σ H R := by exact fun _ h => h) :
    iMake (He.ga K "Evening") (sp_ev_init K) ta σ H Q := by
  refine iMake_of ?_
  refine hta _ fun x dx nx ndx ne => ?_
  refine ⟨x, dx, n, rfl, h1, h6, upd_same, fun H' A f c a1 a2 a3 a4 => ⟨rfl, ?_⟩⟩
  have fr : ∀ b, (upd (upd H dx (.own x)) x (.ins (He.ga K "Evening") dx [])) b = none → H b = none := fun b hb => by
    cases e : H b with
    | none => rfl
    | some o => rw [upd_ne (ne_of_none e nx), upd_ne (ne_of_none e ndx), e] at hb; cases hb
  refine h H' x A (made_same nx ndx f) ⟨Ev.made c, evNew_ok h1 h6, EvB.new n⟩ fun a ha => ?_
  unfold own at ha
  simp only [List.mem_cons, List.not_mem_nil, or_false] at ha
  rcases ha with e | e | e | e | e
  · rw [e]; exact nx
  all_goals (rw [e]; apply fr; assumption)
/-- p.wish([..]) -/
theorem rd_wishT {ss : List Int} {ta : TA} (e : EvG K S H p A st) (hA : areSingers ss st.last.length = true) (h24 : st.rounds.length < 24) (ht : st.tale.length < 900)
    (h : ∀ H' t, Fra (own p A) H H' → EvG K S H' p A (st.wish ss) → H t = none → H' t = some (.tup [.int st.rounds.length, .int (st.num ss)]) → Q (.ref t) H') (hta : ∀ (R : List V → Hp → Prop), R (ss.map V.int) H → ta σ H R := by exact fun _ h => h) :
    ∃ a dx fs, V.ref p = .ref a ∧ H a = some (.ins (He.ga K "Evening") dx fs) ∧ fs.lookup ("wish" : Str) = none ∧ (tCons (tLst ta) tNil) σ H fun vs H2 => sp_wish K (.ref p :: (vs ++ [])) H2 Q E0 := by
  obtain ⟨dx, hp⟩ := e.ev.pp
  obtain ⟨s1, s3, sin, _⟩ := areS_len hA
  refine ⟨p, dx, _, rfl, hp, evF_no _ _ (by decide +kernel), hta _ ⟨?_, fun l nl => ?_⟩⟩
  · rw [List.length_map]; exact Nat.le_of_lt (lt_line (by omega))
  · have nl' : l ∉ own p A := e.out_of nl
    refine ⟨S, p, l, A, st, ss, rfl, e.ev.mono (Same.new nl), e.ok, ht, .inl (.inl ?_), hA, h24, fun H' t f e' nt ht' => ?_⟩
    · rw [off_out nl']; exact upd_same
    · have f0 : Fra (own p A) H H' := (Fra.of (Same.new nl)).trans f
      refine h H' t f0 ⟨e', e.ok.wish h24 s3, e.eb.wish sin (fun z => by rw [z] at s1; simp at s1)⟩ ?_ ht'
      exact (Same.new nl).free nt
theorem rd_wish {ss : List Int} {ta : TA} (hσ : σ[i]? = some (some (.ref p))) (e : EvG K S H p A st) (hA : areSingers ss st.last.length = true) (h24 : st.rounds.length < 24) (ht : st.tale.length < 900)
    (h : ∀ H' t, Fra (own p A) H H' → EvG K S H' p A (st.wish ss) → H t = none → H' t = some (.tup [.int st.rounds.length, .int (st.num ss)]) → Q (.ref t) H') (hta : ∀ (R : List V → Hp → Prop), R (ss.map V.int) H → ta σ H R := by exact fun _ h => h) :
    iMeth (He.ga K "Evening") "wish" (sp_wish K) (tVar i) (tCons (tLst ta) tNil) σ H Q := iMeth_of ⟨_, hσ, rd_wishT e hA h24 ht h hta⟩
theorem rd_sing (hσ : σ[i]? = some (some (.ref p))) (e : EvG K S H p A st) (ht : st.tale.length < 900) (h : ∀ H', Fra (own p A) H H' → EvG K S H' p A st.sing → Q (optV st.next) H') :
    iMeth (He.ga K "Evening") "sing" (sp_sing K) (tVar i) tNil σ H Q := by
  refine iMeth_of ?_
  obtain ⟨dx, hp⟩ := e.ev.pp
  exact ⟨_, hσ, p, dx, _, rfl, hp, evF_no _ _ (by decide +kernel), S, p, A, st, rfl, e.ev, e.ok, ht, fun H' f e' => h H' f ⟨e', e.ok.sing, e.eb.sing e.ok⟩⟩
theorem rd_out {ta : TA} {n : Int} (hσ : σ[i]? = some (some (.ref p))) (e : EvG K S H p A st) (hn : n ∈ st.waiting) (ht : st.tale.length < 900) (h : ∀ H', Fra (own p A) H H' → EvG K S H' p A (st.out n) → Q (.int (st.out n).waiting.length) H') (hta : ∀ (R : List V → Hp → Prop), R [.int n] H → ta σ H R := by exact fun _ h => h) :
    iMeth (He.ga K "Evening") "withdraw" (sp_withdraw K) (tVar i) ta σ H Q := by
  refine iMeth_of ?_
  obtain ⟨dx, hp⟩ := e.ev.pp
  exact ⟨_, hσ, p, dx, _, rfl, hp, evF_no _ _ (by decide +kernel), hta _ ⟨S, p, A, st, n, rfl, e.ev, e.ok, ht, hn, fun H' f e' => h H' f ⟨e', e.ok.out n, e.eb.out n⟩⟩⟩
theorem rd_tale (hσ : σ[i]? = some (some (.ref p))) (e : EvG K S H p A st) (h : ∀ l H' cs, H l = none → Same H H' → H' l = some (.lst cs) → cs.length = st.tale.length → (∀ (i : Nat) v, cs[i]? = some v → ∃ q, st.tale[i]? = some q ∧ PartN H (off [l] H') v q) → Q (.ref l) H') :
    iMeth (He.ga K "Evening") "tale" (sp_tale K) (tVar i) tNil σ H Q := by
  refine iMeth_of ?_
  obtain ⟨dx, hp⟩ := e.ev.pp
  exact ⟨_, hσ, p, dx, _, rfl, hp, evF_no _ _ (by decide +kernel), S, p, A, st, rfl, e.ev, h⟩
theorem rd_waits (hσ : σ[i]? = some (some (.ref p))) (e : EvG K S H p A st) (h : ∀ l H', H l = none → Same H H' → H' l = some (.lst (st.queue.map V.int)) → Q (.ref l) H') :
    iMeth (He.ga K "Evening") "waits" (sp_waits K) (tVar i) tNil σ H Q := by
  refine iMeth_of ?_
  obtain ⟨dx, hp⟩ := e.ev.pp
  exact ⟨_, hσ, p, dx, _, rfl, hp, evF_no _ _ (by decide +kernel), S, p, A, st, rfl, e.ev, e.ok, h⟩
theorem rd_now (hσ : σ[i]? = some (some (.ref p))) (e : EvG K S H p A st) (h : Q (.int st.going) H) :
    iMeth (He.ga K "Evening") "round_now" (sp_round_now K) (tVar i) tNil σ H Q := by
  refine iMeth_of ?_
  obtain ⟨dx, hp⟩ := e.ev.pp
  exact ⟨_, hσ, p, dx, _, rfl, hp, evF_no _ _ (by decide +kernel), S, p, A, st, rfl, e.ev, h⟩
theorem rd_within {ta : TA} {n : Int} (hσ : σ[i]? = some (some (.ref p))) (e : EvG K S H p A st) (hn : n ∈ st.waiting) (h : ∀ H', Same H H' → Q (.int (st.within n)) H') (hta : ∀ (R : List V → Hp → Prop), R [.int n] H → ta σ H R := by exact fun _ h => h) :
    iMeth (He.ga K "Evening") "within" (sp_within K) (tVar i) ta σ H Q := by
  refine iMeth_of ?_
  obtain ⟨dx, hp⟩ := e.ev.pp
  exact ⟨_, hσ, p, dx, _, rfl, hp, evF_no _ _ (by decide +kernel), hta _ ⟨S, p, A, st, n, rfl, e.ev, e.ok, e.eb, hn, h⟩⟩
/-- refused -/
theorem rd_wishX {E : XK} {j : Nat} {v : V} (hσ : σ[i]? = some (some (.ref p))) (hj : σ[j]? = some (some v)) (e : EvG K S H p A st) (hv : NoSing K H st.last.length v) (h : ∀ H', Same H H' → E (.ref (He.ga K "BadSingers")) none H') :
    tMeth (He.ga K "Evening") "wish" (sp_wishX K) [] E (tVar i) (tCons (tVar j) tNil) σ H Q := by
  obtain ⟨dx, hp⟩ := e.ev.pp
  exact ⟨_, hσ, p, dx, _, rfl, hp, evF_no _ _ (by decide +kernel), _, hj, S, p, A, st, v, rfl, e.ev, .inl ⟨hv, h⟩⟩
theorem rd_wishL {ss : List Int} {E : XK} {ta : TA} (hσ : σ[i]? = some (some (.ref p))) (e : EvG K S H p A st) (hl : ss.length ≤ 1000)
    (h : (areSingers ss st.last.length = false ∧ ∀ H', Same H H' → E (.ref (He.ga K "BadSingers")) none H') ∨ (areSingers ss st.last.length = true ∧ st.rounds.length = 24 ∧ ∀ H', Same H H' → E (.ref (He.ga K "TooMany")) none H')) (hta : ∀ (R : List V → Hp → Prop), R (ss.map V.int) H → ta σ H R := by exact fun _ h => h) :
    tMeth (He.ga K "Evening") "wish" (sp_wishX K) [] E (tVar i) (tCons (tLst ta) tNil) σ H Q := by
  obtain ⟨dx, hp⟩ := e.ev.pp
  refine ⟨_, hσ, p, dx, _, rfl, hp, evF_no _ _ (by decide +kernel), hta _ ⟨?_, fun l nl => ?_⟩⟩
  · rw [List.length_map]; exact Nat.le_of_lt (lt_line (by omega))
  · refine ⟨S, p, A, st, _, rfl, e.ev.mono (Same.new nl), ?_⟩
    rcases h with ⟨h, q⟩ | ⟨h, h24, q⟩
    · exact .inl ⟨.inr (.inr ⟨l, ss, rfl, SqL.of upd_same, hl, h⟩), fun H' s => q H' ((Same.new nl).trans s)⟩
    · exact .inr ⟨l, ss, rfl, SqL.of upd_same, h, h24, fun H' s => q H' ((Same.new nl).trans s)⟩
theorem rd_songX {E : XK} {j : Nat} {v : V} {m : Str} (hm : m ∉ (["last", "going", "rounds", "waiting", "came"] : List Str)) (hσ : σ[i]? = some (some (.ref p))) (hj : σ[j]? = some (some v)) (e : EvG K S H p A st) (hv : NoSong K H st.waiting v) (h : E (.ref (He.ga K "BadSong")) none H) :
    tMeth (He.ga K "Evening") m (sp_look_atX K) [] E (tVar i) (tCons (tVar j) tNil) σ H Q := by
  obtain ⟨dx, hp⟩ := e.ev.pp
  exact ⟨_, hσ, p, dx, _, rfl, hp, evF_no _ _ hm, _, hj, S, p, A, st, v, rfl, e.ev, hv, h⟩
end
end Song

/-! ### De: further words for written data -/
namespace Song
open PySem L2
abbrev TL (K : PySem.W.Frag) : List (Addr × Str) := TLof K tf


theorem dxAll_set {H : Hp} {v : V} {d : D} (hd : Dx H v d) : ∀ {vs : List V} {ds : List D} (i : Nat), DxAll H vs ds → DxAll H (vs.set i v) (ds.set i d)
  | _, _, _, .nil => .nil
  | _, _, 0, .cons _ a => .cons hd a
  | _, _, i + 1, .cons h a => .cons h (dxAll_set hd i a)
theorem dxAll_at {H : Hp} {vs : List V} {ds : List D} (h : DxAll H vs ds) {n : Int} (h0 : 0 ≤ n) (h1 : n < ds.length) : ∃ v, atI vs n = some v ∧ Dx H v (ds.getD n.toNat .non) := by
  have hl := dxAll_len h
  have hlt : n.toNat < vs.length := by omega
  obtain ⟨d, e1, e2⟩ := dxAll_get h (List.getElem?_eq_getElem hlt)
  refine ⟨vs[n.toNat], ?_, by rw [List.getD_eq_getElem?_getD, e1]; exact e2⟩
  have := atI_nat (List.getElem?_eq_getElem hlt)
  rw [show ((n.toNat : Nat) : Int) = n by omega] at this
  exact this
section
variable {σ : L2.St} {H : Hp} {Q : VK} {K : PySem.W.Frag}
/-- [..][n] -/
theorem rd_ixD {te ti : TE} {ds : List D} {n : Int} (h : Gv H σ te (.lst ds)) (h0 : 0 ≤ n) (h1 : n < ds.length) (hi : ∀ (H : Hp) (R : VK), R (.int n) H → ti σ H R) (q : ∀ v H', Same H H' → Dx H' v (ds.getD n.toNat .non) → Q v H') : tOp (rIxL K) (iE te) ti σ H Q := by
  unfold tOp
  refine rd_dat h fun v H1 s1 hv => hi _ _ ?_
  obtain ⟨a, vs, rfl, ha, hall⟩ := dx_lst hv
  obtain ⟨x, e1, e2⟩ := dxAll_at hall h0 h1
  exact ⟨a, vs, n, x, rfl, rfl, SqL.of ha, e1, q _ _ s1 e2⟩
theorem seq_asg {te : TE} {g : TG} {B : TS} {Dn : Ends} (h : te σ H fun x H1 => g x σ H1 (B Dn)) : tSeq (tAsg te g) B Dn σ H := h
theorem seq_if {c : TT} {t u B : TS} {Dn : Ends} (h : c σ H fun b H1 => if b = true then t { Dn with nx := B Dn } σ H1 else u { Dn with nx := B Dn } σ H1) : tSeq (tIfS c t u) B Dn σ H := h
theorem rd_set0 {te : TE} {j : Nat} {B : TS} {Dn : Ends} (h : te σ H fun x H1 => B Dn (σ.set j (some x)) H1) : tSeq (tAsg te (gName j)) B Dn σ H := h
end
/-! #### displays, apart from what stood there -/
/-- as Gv; what is laid lies outside of S, objects of G -/
def Gw (S : List Addr) (G : Hp) (σ : L2.St) (te : TE) (d : D) : Prop := (∀ a ∈ S, ∃ o, G a = some o) → ∀ H, Same G H → ∀ Q : VK, (∀ v H', Same H H' → Dx (off S H') v d → Q v H') → te σ H Q
def GwA (S : List Addr) (G : Hp) (σ : L2.St) (ta : TA) (ds : List D) : Prop := (∀ a ∈ S, ∃ o, G a = some o) → ∀ H, Same G H → ∀ Q : List V → Hp → Prop, (∀ vs H', Same H H' → DxAll (off S H') vs ds → Q vs H') → ta σ H Q
theorem off_new {S : List Addr} {G H : Hp} {p : Addr} {o : HO} (hS : ∀ a ∈ S, ∃ o, G a = some o) (s : Same G H) (n : H p = none) : off S (upd H p o) p = some o := by
  rw [off_out, upd_same]
  intro z
  obtain ⟨u, hu⟩ := hS p z
  rw [s _ _ hu] at n; cases n
section
variable {S : List Addr} {G : Hp} {σ : L2.St}
theorem gw_non : Gw S G σ (tC .non) .non := fun _ H _ Q q => q _ H (Same.refl _) .non
theorem gw_bl {b : Bool} : Gw S G σ (tC (.bl b)) (.bl b) := fun _ H _ Q q => q _ H (Same.refl _) (.bl b)
theorem gw_int {i : Int} : Gw S G σ (tC (.int i)) (.int i) := fun _ H _ Q q => q _ H (Same.refl _) (.int i)
theorem gw_str {s : Str} : Gw S G σ (tC (.str s)) (.str s) := fun _ H _ Q q => q _ H (Same.refl _) (.str s)
theorem gw_num {te : TE} {n : Int} (h : ∀ (H : Hp) (Q : VK), Q (.int n) H → te σ H Q) : Gw S G σ te (.int n) := fun _ H _ Q q => h H Q (q _ H (Same.refl _) (.int n))
theorem gw_var {i : Nat} {v : V} {d : D} (hσ : σ[i]? = some (some v)) (hd : Dx (off S G) v d) : Gw S G σ (tVar i) d := fun _ H s Q q => ⟨v, hσ, q v H (Same.refl _) (dx_mono (off_mono s) hd)⟩
theorem gx_nil : GwA S G σ tNil [] := fun _ H _ Q q => q _ H (Same.refl _) .nil
theorem gx_cons {te : TE} {ta : TA} {d : D} {ds : List D} (h : Gw S G σ te d) (t : GwA S G σ ta ds) : GwA S G σ (tCons te ta) (d :: ds) := fun hS H s Q q =>
  h hS H s _ fun v H1 s1 hv => t hS H1 (s.trans s1) _ fun vs H2 s2 hvs => q _ H2 (s1.trans s2) (.cons (dx_mono (off_mono s2) hv) hvs)
theorem gw_lst {ta : TA} {ds : List D} (h : GwA S G σ ta ds) (hl : ds.length ≤ 1000 := by first | decide | simp) : Gw S G σ (tLst ta) (.lst ds) := fun hS H s Q q =>
  h hS H s _ fun vs H1 s1 hvs => ⟨by rw [dxAll_len hvs]; exact Nat.le_of_lt (Nat.lt_of_le_of_lt hl (by decide)), fun p np => q _ _ (s1.trans (Same.new np)) (.lst (off_new hS (s.trans s1) np) (dxAll_mono (off_mono (Same.new np)) hvs))⟩
theorem gw_tup {ta : TA} {ds : List D} (h : GwA S G σ ta ds) (hl : ds.length ≤ 1000 := by first | decide | simp) : Gw S G σ (tTup ta) (.tup ds) := fun hS H s Q q =>
  h hS H s _ fun vs H1 s1 hvs => ⟨by rw [dxAll_len hvs]; exact Nat.le_of_lt (Nat.lt_of_le_of_lt hl (by decide)), fun p np => q _ _ (s1.trans (Same.new np)) (.tup (off_new hS (s.trans s1) np) (dxAll_mono (off_mono (Same.new np)) hvs))⟩
theorem gw_dic : Gw S G σ tDNewK .dic := fun hS H s Q q => fun p np => q _ _ (Same.new np) (.dic (off_new hS s np))
theorem gw_rep {ta : TA} {tn : TE} {k : Int} {d : D} (h : GwA S G σ ta [d]) (hk : 0 ≤ k ∧ k ≤ 1000) (hn : ∀ (H : Hp) (Q : VK), Q (.int k) H → tn σ H Q) : Gw S G σ (tOp rRep (tLst ta) tn) (.lst (List.replicate k.toNat d)) := fun hS H s Q q =>
  h hS H s _ fun vs H1 s1 hv => ⟨by rw [dxAll_len hv]; show 1 ≤ sizeLine; decide, fun l nl => hn _ _ (by
    cases hv with
    | cons h0 hr =>
      cases hr
      have : sizeLine = 16777216 := by decide
      refine ⟨l, k, _, rfl, rfl, upd_same, by omega, by omega, by show 1 * k.toNat ≤ sizeLine; omega, fun p np => ?_⟩
      rw [flat_rep]
      exact q _ _ ((s1.trans (Same.new nl)).trans (Same.new np)) (.lst (off_new hS ((s.trans s1).trans (Same.new nl)) np) (dxAll_rep (dx_mono (off_mono ((Same.new nl).trans (Same.new np))) h0) _)))⟩
/-- the same at once -/
theorem rd_datS {te : TE} {H : Hp} {Q : VK} {d : D} (S : List Addr) (hS : ∀ a ∈ S, ∃ o, H a = some o) (h : Gw S H σ te d) (q : ∀ v H', Same H H' → Dx (off S H') v d → Q v H') : iE te σ H Q := iE_of (h hS H (Same.refl _) Q q)
theorem rd_ixS {K : PySem.W.Frag} {te ti : TE} {H : Hp} {Q : VK} {ds : List D} {n : Int} (S : List Addr) (hS : ∀ a ∈ S, ∃ o, H a = some o) (h : Gw S H σ te (.lst ds)) (h0 : 0 ≤ n) (h1 : n < ds.length) (hi : ∀ (H : Hp) (R : VK), R (.int n) H → ti σ H R)
    (q : ∀ v H', Same H H' → Dx (off S H') v (ds.getD n.toNat .non) → Q v H') : tOp (rIxL K) (iE te) ti σ H Q := by
  unfold tOp
  refine rd_datS S hS h fun v H1 s1 hv => hi _ _ ?_
  obtain ⟨a, vs, rfl, ha, hall⟩ := dx_lst hv
  obtain ⟨x, e1, e2⟩ := dxAll_at hall h0 h1
  exact ⟨a, vs, n, x, rfl, rfl, SqL.of (off_some ha).2, e1, q _ _ s1 e2⟩
theorem rd_setS {te : TE} {H : Hp} {d : D} {B : TS} {Dn : Ends} {j : Nat} (S : List Addr) (hS : ∀ a ∈ S, ∃ o, H a = some o) (h : Gw S H σ te d) (q : ∀ v H', Same H H' → Dx (off S H') v d → B Dn (σ.set j (some v)) H') : tSeq (tAsg (iE te) (gName j)) B Dn σ H := by
  unfold tSeq tAsg
  exact rd_datS S hS h q
/-- a list is laid; what it holds lies outside of it, too -/
def GwL (S : List Addr) (G : Hp) (σ : L2.St) (te : TE) (ds : List D) : Prop := (∀ a ∈ S, ∃ o, G a = some o) → ∀ H, Same G H → ∀ Q : VK, (∀ p vs H', H p = none → Same H H' → H' p = some (.lst vs) → DxAll (off (p :: S) H') vs ds → Q (.ref p) H') → te σ H Q
theorem off_cons {S : List Addr} {H1 : Hp} {p : Addr} {o : HO} (np : H1 p = none) : Same (off S H1) (off (p :: S) (upd H1 p o)) := fun b u e => by
  obtain ⟨e1, e2⟩ := off_some e
  have q : b ≠ p := ne_of_none e2 np
  rw [off_out (by simp [q, e1]), upd_ne q]; exact e2
theorem gl_lst {ta : TA} {ds : List D} (h : GwA S G σ ta ds) (hl : ds.length ≤ 1000 := by first | decide | simp) : GwL S G σ (tLst ta) ds := fun hS H s Q q =>
  h hS H s _ fun vs H1 s1 hvs => ⟨by rw [dxAll_len hvs]; exact Nat.le_of_lt (Nat.lt_of_le_of_lt hl (by decide)), fun p np => q p vs _ (s1.free np) (s1.trans (Same.new np)) upd_same (dxAll_mono (off_cons np) hvs)⟩
theorem gl_rep {ta : TA} {tn : TE} {k : Int} {d : D} (h : GwA S G σ ta [d]) (hk : 0 ≤ k ∧ k ≤ 1000) (hn : ∀ (H : Hp) (Q : VK), Q (.int k) H → tn σ H Q) : GwL S G σ (tOp rRep (tLst ta) tn) (List.replicate k.toNat d) := fun hS H s Q q =>
  h hS H s _ fun vs H1 s1 hv => ⟨by rw [dxAll_len hv]; show 1 ≤ sizeLine; decide, fun l nl => hn _ _ (by
    cases hv with
    | cons h0 hr =>
      cases hr
      have : sizeLine = 16777216 := by decide
      refine ⟨l, k, _, rfl, rfl, upd_same, by omega, by omega, by show 1 * k.toNat ≤ sizeLine; omega, fun p np => ?_⟩
      rw [flat_rep]
      exact q p _ _ ((s1.trans (Same.new nl)).free np) ((s1.trans (Same.new nl)).trans (Same.new np)) upd_same (dxAll_rep (dx_mono ((off_mono (Same.new nl)).trans (off_cons np)) h0) _))⟩
theorem rd_lay {te : TE} {H : Hp} {Q : VK} {ds : List D} (S : List Addr) (hS : ∀ a ∈ S, ∃ o, H a = some o) (h : GwL S H σ te ds) (q : ∀ p vs H', H p = none → Same H H' → H' p = some (.lst vs) → DxAll (off (p :: S) H') vs ds → Q (.ref p) H') : iE te σ H Q := iE_of (h hS H (Same.refl _) Q q)
theorem rd_setLS {te : TE} {H : Hp} {ds : List D} {B : TS} {Dn : Ends} {j : Nat} (S : List Addr) (hS : ∀ a ∈ S, ∃ o, H a = some o) (h : GwL S H σ te ds) (q : ∀ p vs H', H p = none → Same H H' → H' p = some (.lst vs) → DxAll (off (p :: S) H') vs ds → B Dn (σ.set j (some (.ref p))) H') : tSeq (tAsg (iE te) (gName j)) B Dn σ H := by
  unfold tSeq tAsg
  exact rd_lay S hS h q
end
theorem tabs_put {T : List (Addr × Str)} {H H' : Hp} {a : Addr} {xs : List V} (t : LamX.Tabs T H) (h : H a = some (.lst xs)) (f : Fra [a] H H') : LamX.Tabs T H' := fun x hx => by
  obtain ⟨ps, h1, h2, h3⟩ := t x hx
  have o1 : x.1 ≠ a := fun z => by rw [z, h] at h1; cases h1
  refine ⟨ps, f.one o1 h1, h2, fun pos cv hc => ?_⟩
  obtain ⟨c, e1, e2⟩ := h3 pos cv hc
  have o2 : c ≠ a := fun z => by rw [z, h] at e2; cases e2
  exact ⟨c, e1, f.one o2 e2⟩
theorem ext_fra {H H2 H3 : Hp} {S : List Addr} (e : LamX.ExtN H H2) (f : Fra S H2 H3) (n : ∀ a ∈ S, H a = none) : LamX.ExtN H H3 := fun b o h k =>
  f b o (fun z => by rw [n b z] at h; cases h) (e b o h k)
theorem same_offnew {H H' : Hp} {p : Addr} (s : Same H H') (n : H p = none) : Same H (off [p] H') := fun b o e => by
  rw [off_out (by simpa using ne_of_none e n)]; exact s _ _ e
theorem dxAll_intsD {H : Hp} : ∀ (ns : List Int), DxAll H (ns.map V.int) (ns.map D.int)
  | [] => .nil
  | n :: r => .cons (.int n) (dxAll_intsD r)
theorem dxAll_of {H : Hp} {f : Nat → D} : ∀ {ys : List V} (k : Nat), (∀ (i : Nat) y, ys[i]? = some y → Dx H y (f (i + k))) → DxAll H ys ((List.range' k ys.length).map f)
  | [], _, _ => .nil
  | y :: r, k, h => .cons (by have := h 0 y rfl; simpa using this) (by
      have ih := dxAll_of (ys := r) (f := f) (k + 1) fun i z e => by
        have := h (i + 1) z (by simpa using e)
        rwa [show i + 1 + k = i + (k + 1) by omega] at this
      simpa using ih)
theorem dxAll_fun {H : Hp} {f : Nat → D} {ys : List V} (h : ∀ (i : Nat) y, ys[i]? = some y → Dx H y (f i)) : DxAll H ys ((List.range ys.length).map f) := by
  rw [List.range_eq_range']
  exact dxAll_of 0 h
/-- a list at p, what it holds lies outside of it -/
structure LsD (H : Hp) (p : Addr) (vs : List V) (ds : List D) : Prop where
  at_ : H p = some (.lst vs)
  all : DxAll (off [p] H) vs ds
theorem LsD.dx {H : Hp} {p : Addr} {vs : List V} {ds : List D} (h : LsD H p vs ds) : Dx H (.ref p) (.lst ds) := .lst h.at_ (dxAll_mono (off_le _ _) h.all)
theorem LsD.mono {H H' : Hp} {p : Addr} {vs : List V} {ds : List D} (s : Same H H') (h : LsD H p vs ds) : LsD H' p vs ds := ⟨s _ _ h.at_, dxAll_mono (off_mono s) h.all⟩
/-- a member is stored, one that lies outside -/
theorem LsD.set {H : Hp} {p : Addr} {vs : List V} {ds : List D} (h : LsD H p vs ds) {v : V} {d : D} (hv : Dx (off [p] H) v d) (i : Nat) : LsD (upd H p (.lst (vs.set i v))) p (vs.set i v) (ds.set i d) :=
  ⟨upd_same, by rw [off_one]; exact dxAll_set hv i h.all⟩
end Song

/-! ### E2: two evenings; displays handed to wish -/
namespace Song
open PySem L2
structure Duo (K : PySem.W.Frag) (H : Hp) (p : Addr) (A : Ad) (st : EvS) (d : Addr) (B : Ad) (st' : EvS) : Prop where
  a : EvG K (own p A ++ own d B) H p A st
  b : EvG K (own p A ++ own d B) H d B st'
  dj : ∀ x ∈ own p A, x ∉ own d B
section
variable {K : PySem.W.Frag} {H H' : Hp} {p d : Addr} {A B : Ad} {st st' st2 : EvS}
theorem EvG.domOwn {S : List Addr} (e : EvG K S H p A st) : ∀ x ∈ own p A, ∃ o, H x = some o := fun x hx => e.ev.dom x (e.ev.sub x hx)
theorem Duo.new {m : Int} (e : EvA K H p A st) (s : Same H H') (e' : EvA K H' d B (evNew m)) (n : ∀ x ∈ own d B, H x = none) : Duo K H' p A st d B (evNew m) := by
  have dom : ∀ x ∈ own p A ++ own d B, ∃ o, H' x = some o := fun x hx => by
    rcases List.mem_append.mp hx with h | h
    · exact dom_same s e.ev.dom x h
    · exact e'.ev.dom x h
  refine ⟨⟨e.ev.grow s (fun x h => List.mem_append_left _ h) (fun x h => ?_) dom, e.ok, e.eb⟩, ⟨?_, e'.ok, e'.eb⟩, fun x h1 h2 => ?_⟩
  · rcases List.mem_append.mp h with z | z
    · exact .inl z
    · exact .inr (n x z)
  · obtain ⟨⟨cs, c, q⟩, sub, dom', few⟩ := e'.ev
    refine ⟨⟨cs, c, ?_⟩, fun x h => List.mem_append_right _ (sub x h), dom, few⟩
    cases cs with
    | nil => trivial
    | cons _ _ => exact q.elim
  · obtain ⟨o, ho⟩ := e.ev.dom x h1
    rw [n x h2] at ho; cases ho
theorem Duo.mono (s : Same H H') (e : Duo K H p A st d B st') : Duo K H' p A st d B st' := ⟨e.a.mono s, e.b.mono s, e.dj⟩
theorem Duo.left (e : Duo K H p A st d B st') (f : Fra (own p A) H H') (e2 : EvG K (own p A ++ own d B) H' p A st2) : Duo K H' p A st2 d B st' :=
  ⟨e2, ⟨e.b.ev.fra f (fun x h => List.mem_append_left _ h) e2.ev.dom (fun x h z => e.dj x z h), e.b.ok, e.b.eb⟩, e.dj⟩
theorem Duo.right (e : Duo K H p A st d B st') (f : Fra (own d B) H H') (e2 : EvG K (own p A ++ own d B) H' d B st2) : Duo K H' p A st d B st2 :=
  ⟨⟨e.a.ev.fra f (fun x h => List.mem_append_right _ h) e2.ev.dom (fun x h z => e.dj x h z), e.a.ok, e.a.eb⟩, e2, e.dj⟩
end
section
variable {K : PySem.W.Frag} {S : List Addr} {H : Hp} {p : Addr} {A : Ad} {st : EvS} {σ : L2.St} {Q : VK} {i : Nat}
theorem rd_wishE {ss : List Int} {ta : TA} (hσ : σ[i]? = some (some (.ref p))) (e : EvG K S H p A st) (hA : areSingers ss st.last.length = true) (h24 : st.rounds.length < 24) (ht : st.tale.length < 900)
    (h : ∀ H' t, Fra (own p A) H H' → EvG K S H' p A (st.wish ss) → H t = none → H' t = some (.tup [.int st.rounds.length, .int (st.num ss)]) → Q (.ref t) H') (hta : ∀ (R : List V → Hp → Prop), R (ss.map V.int) H → ta σ H R := by exact fun _ h => h) :
    iMeth (He.ga K "Evening") "wish" (sp_wish K) (tVar i) (tCons (iE (tLst ta)) tNil) σ H Q := by
  obtain ⟨a, dx, fs, h1, h2, h3, h4⟩ := rd_wishT (Q := Q) e hA h24 ht h hta
  exact iMeth_of ⟨_, hσ, a, dx, fs, h1, h2, h3, iE_of h4⟩
theorem rd_worst {ta : TA} {n : Int} (hσ : σ[i]? = some (some (.ref p))) (e : EvG K S H p A st) (hn : n ∈ st.waiting) (h : ∀ l H' cs, H l = none → Same H H' → H' l = some (.lst cs) → cs.length = (st.ahead n).length → (∀ (i : Nat) v, cs[i]? = some v → ∃ b x, (st.ahead n)[i]? = some x ∧ v = .ref b ∧ off [l] H' b = some (.lst ([x].map V.int)) ∧ H b = none) → Q (.ref l) H') (hta : ∀ (R : List V → Hp → Prop), R [.int n] H → ta σ H R := by exact fun _ h => h) :
    iMeth (He.ga K "Evening") "worst" (sp_worst K) (tVar i) ta σ H Q := by
  obtain ⟨dx, hp⟩ := e.ev.pp
  exact iMeth_of ⟨_, hσ, p, dx, _, rfl, hp, evF_no _ _ (by decide +kernel), hta _ ⟨S, p, A, st, n, rfl, e.ev, e.ok, e.eb, hn, h⟩⟩
end
end Song

/-! ### Dp2: written data as the kit's data -/
namespace Song
open PySem L2
mutual
def toPy : D → PyData
  | .non => .none
  | .bl b => .bool b
  | .int i => .int i
  | .str s => .str s
  | .lst l => .list (toPys l)
  | .tup l => .tuple (toPys l)
  | .dic => .none
def toPys : List D → List PyData
  | [] => []
  | d :: r => toPy d :: toPys r
def noDic : D → Bool
  | .lst l => noDics l
  | .tup l => noDics l
  | .dic => false
  | _ => true
def noDics : List D → Bool
  | [] => true
  | d :: r => noDic d && noDics r
end
mutual
theorem dx_dp {K : PySem.W.Frag} {H : Hp} : ∀ {v : V} {d : D}, Dx H v d → noDic d = true → Dp K H v (toPy d)
  | _, _, .non, _ => .non
  | _, _, .bl b, _ => .bl b
  | _, _, .int i, _ => .int i
  | _, _, .str x, _ => .str x
  | _, _, .lst h a, n => .lst (SqL.of h) (dxAll_dp a (by unfold noDic at n; exact n))
  | _, _, .tup h a, n => .tup (SqT.of h) (dxAll_dp a (by unfold noDic at n; exact n))
  | _, _, .dic h, n => by unfold noDic at n; cases n
theorem dxAll_dp {K : PySem.W.Frag} {H : Hp} : ∀ {vs : List V} {ds : List D}, DxAll H vs ds → noDics ds = true → DpAll K H vs (toPys ds)
  | _, _, .nil, _ => .nil
  | _, _, .cons d a, n => by
    unfold noDics at n
    rw [Bool.and_eq_true] at n
    exact .cons (dx_dp d n.1) (dxAll_dp a n.2)
end
end Song

/-! ### H1: _law_spoiled_right of k13 -/
namespace Song
open PySem L2
theorem DxAll.all {H : Hp} {vs : List V} {ds : List D} (h : DxAll H vs ds) : ∀ d ∈ ds, ∃ v ∈ vs, Dx H v d := fun d hd => by
  obtain ⟨i, hi, rfl⟩ := List.mem_iff_getElem.mp hd
  have hl := dxAll_len h
  obtain ⟨d', e1, e2⟩ := dxAll_get h (List.getElem?_eq_getElem (by omega : i < vs.length))
  rw [List.getElem?_eq_getElem hi] at e1
  exact ⟨_, List.getElem_mem _, by rw [Option.some.inj e1]; exact e2⟩
theorem set_all {α : Type} {P : α → Prop} {xs : List α} {x : α} {i : Nat} (h : ∀ y ∈ xs, P y) (hx : P x) : ∀ y ∈ xs.set i x, P y := fun y hy => by
  rcases List.mem_or_eq_of_mem_set hy with z | z
  · exact h y z
  · rw [z]; exact hx
theorem mem_set_self {α : Type} {xs : List α} {x : α} {i : Nat} (h : i < xs.length) : x ∈ xs.set i x := by
  rw [List.mem_iff_getElem]
  exact ⟨i, by rw [List.length_set]; exact h, by simp⟩
/-- a tale with one part that is none -/
theorem taleD_spoil {ds : List D} {d : D} {i : Nat} (h : i < ds.length) (hd : partD d = false) : taleD (.lst (ds.set i d)) = false := by
  show (decide _ && (ds.set i d).all partD) = false
  have : (ds.set i d).all partD = false := Bool.eq_false_iff.mpr fun z => by
    have := List.all_eq_true.mp z d (mem_set_self h)
    rw [hd] at this; cases this
  rw [this, Bool.and_false]
def badPart : List D := [.non, .tup [.str "sing"], .lst [.str "sing", .non], .tup [.str "sing", .str "0"], .tup [.str "wish", .tup [.int 0], .int 0, .int 1], .tup [.str "out", .non]]
theorem badPart_no : ∀ i : Nat, i < 6 → partD (badPart.getD i .non) = false ∧ smlB (badPart.getD i .non) = true := by decide +kernel
def sixes : List Int := (upto 24).map (· % 6)
def badSong : List D := [.int 6, .int (-1), .bl true, .str "0", .non, .lst [.int 0]]
/-- no singer of six -/
def nosB (d : D) : Bool := !(wholeD d && decide (0 ≤ intD d ∧ intD d < 6))
theorem badSong_no : ∀ i : Nat, i < 6 → nosB (badSong.getD i .non) = true := by decide +kernel
theorem songsD_spoil {ds : List D} {d : D} {i : Nat} (h : i < ds.length) (hd : nosB d = true) : songsD (.lst (ds.set i d)) = false := by
  show ((ds.set i d).all wholeD && (decide _ && ((ds.set i d).map intD).all _)) = false
  have hm : d ∈ ds.set i d := mem_set_self h
  cases hw : wholeD d with
  | false =>
    have : (ds.set i d).all wholeD = false := Bool.eq_false_iff.mpr fun z => by
      have := List.all_eq_true.mp z d hm
      rw [hw] at this; cases this
    rw [this, Bool.false_and]
  | true =>
    have : ((ds.set i d).map intD).all (fun n => decide (0 ≤ n ∧ n < 6)) = false := Bool.eq_false_iff.mpr fun z => by
      have := List.all_eq_true.mp z (intD d) (List.mem_map.mpr ⟨d, hm, rfl⟩)
      unfold nosB at hd
      rw [hw, this] at hd; cases hd
    rw [this, Bool.and_false, Bool.and_false]
def badGroup : List D := [.lst [], .lst [.int 1, .int 0], .lst [.int 6], .lst [.int 0, .int 1, .int 2, .int 3], .non, .tup [.int 0]]
theorem badGroup_no : ∀ i : Nat, i < 6 → singD (badGroup.getD i .non) 6 = false ∧ fewB (badGroup.getD i .non) = true := by decide +kernel
theorem groupsD_spoil {ds : List D} {d : D} {i : Nat} {m : Int} (h : i < ds.length) (hd : singD d 6 = false) : groupsD (.lst (ds.set i d)) m = false := by
  show (decide _ && (ds.set i d).all fun e => singD e 6) = false
  have : ((ds.set i d).all fun e => singD e 6) = false := Bool.eq_false_iff.mpr fun z => by
    have := List.all_eq_true.mp z d (mem_set_self h)
    rw [hd] at this; cases this
  rw [this, Bool.and_false]
/-- no order: a place twice, or none -/
theorem ord_spoil {n i : Nat} {d : D} (hi : i < n) (hd : wholeD d = true → ∃ m : Int, d = .int m ∧ m ≠ i) : NoOrd (.lst (((upto n).map D.int).set i d)) n := fun hn ds e hp => by
  cases e
  have hl : ((upto n).map D.int).length = n := by rw [List.length_map, upto_len]
  have hn : (((upto n).map D.int).set i d).all wholeD = true := hn
  have hw := List.all_eq_true.mp hn d (mem_set_self (by omega))
  obtain ⟨m, rfl, hm⟩ := hd hw
  have e1 : (((upto n).map D.int).set i (.int m)).map intD = (upto n).set i m := by
    rw [List.map_set, List.map_map]
    have : (intD ∘ D.int) = id := rfl
    rw [this, List.map_id]; rfl
  rw [e1] at hp
  have hmem : (i : Int) ∈ (upto n).set i m := hp.symm.subset (by
    unfold upto
    exact List.mem_map.mpr ⟨i, List.mem_range.mpr hi, rfl⟩)
  obtain ⟨j, hj, ej⟩ := List.mem_iff_getElem.mp hmem
  rw [List.length_set, upto_len] at hj
  rw [List.getElem_set] at ej
  split at ej
  · exact hm ej
  · unfold upto at ej
    simp at ej
    omega
section
variable {P : Program} {w : World} {K : PySem.W.Frag} {mg : Str → Option Value} {base : Heap}
theorem sc__law_spoiled_right : FnScope ["_law_place", "_law_at", "_law_tale", "_law_bad", "_law_songs", "_law_one", "_law_groups", "_law_few", "_law_order"] ["_law_place", "_law_at"] (defScope s__law_spoiled_right) := ⟨rfl, rfl, rfl, by decide +kernel, rfl, by decide +kernel, by decide +kernel⟩
def sp_spoiled (K : PySem.W.Frag) : Sp := fun vs H Q _ => ∃ place at_ : Int, vs = [.int place, .int at_] ∧ 0 ≤ place ∧ place < 30 ∧ LamX.Tabs (TL K) H ∧ ∀ H', LamX.ExtN H H' → LamX.Tabs (TL K) H' → Q (.bl true) H'
theorem fn__law_spoiled_right (T : Tx K mg) (B : ∀ p ∈ tf, LamX.TabB base mg (He.cT K p).1 (He.cT K p).2) : Fn P w K mg base "_law_spoiled_right" 9 (sp_spoiled K) := by
  obtain ⟨fd, F⟩ := T.d__law_spoiled_right
  refine ⟨_, fd, _, okC (at_ := ("_law_spoiled_right", none)) F rfl (CX := CX0) sc__law_spoiled_right (fun vs H Q E h => ?_) (fun cdv hcv A outer s H vs Q E hr h => ?_), T.g__law_spoiled_right, F.kp, F.bindsN fun _ _ _ _ _ _ us hl => match us, hl with | [_, _], _ => rfl⟩
  · obtain ⟨place, at_, rfl, _⟩ := h; rfl
  · obtain ⟨place, at_, rfl, p0, p1, tb, q⟩ := h
    refine ⟨_, PSs.nox (pss_cons (ps_set (i := 2) sc__law_spoiled_right.nd rfl (by first | exact Or.inl rfl | exact Or.inr rfl) (pe_iE (pe_op op_rep (pe_lst (pa_cons (pe_tup (pa_cons pe_str (pa_cons pe_non pa_nil))) pa_nil)) pe_int)))
      (pss_cons (ps_set (i := 3) sc__law_spoiled_right.nd rfl (by first | exact Or.inl rfl | exact Or.inr rfl) (pe_iE (pe_lst (pa_cons pe_non (pa_cons (pe_tup (pa_cons pe_str pa_nil)) (pa_cons (pe_lst (pa_cons pe_str (pa_cons pe_non pa_nil))) (pa_cons (pe_tup (pa_cons pe_str (pa_cons pe_str pa_nil))) (pa_cons (pe_tup (pa_cons pe_str (pa_cons (pe_tup (pa_cons pe_int pa_nil)) (pa_cons pe_int (pa_cons pe_int pa_nil))))) (pa_cons (pe_tup (pa_cons pe_str (pa_cons pe_non pa_nil))) pa_nil)))))))))
      (pss_cons (ps_asg (pe_ix (show IxR _ (rIxL K) from ix_list) (pv 3) (pe_op op_mod (pv 1) pe_int) (fun _ _ => rfl)) (pg_sub (pv 2) (pv 0) set_list))
      (pss_cons (ps_kin (by decide) (ps_if (pt_cmpR (show OpR _ _ (rNeD K) from op_neD hr.units) (pe_kinds (i := 3) (by decide) T (lamT T B (by decide)) rfl hcv hr (by rfl) (LamX.lamS_by (by kernel_rfl)) rfl (fun _ _ _ _ _ => rfl) (fun A outer s H E f c' hr => (pe_fnx (fnx_judged T) (hr.mono (by first | decide | omega)) (by rfl) tkLam (pa_cons pe_int (pa_cons (pv 2) pa_nil))))) (pe_fn (fn__law_due_of T) (hr.mono (by first | decide | omega)) (by rfl) (pa_cons pe_int pa_nil)) (nomark _)) (pss_one (ps_ret pe_bl)) pss_nil))
      (pss_cons (ps_set (i := 4) sc__law_spoiled_right.nd rfl (by first | exact Or.inl rfl | exact Or.inr rfl) (pe_lc (own := [("_law_one", 5)]) (g := (gName 5)) (tt := tYes) (by rfl) sc__law_spoiled_right.nd (pi_range1 (by rfl) T.range (pa_cons pe_int pa_nil)) (blkOk_by (by kernel_rfl)) (fun _ _ _ _ _ => (pg_name (i := 5) sc__law_spoiled_right.nd rfl (by first | exact Or.inl rfl | exact Or.inr rfl))) (fun _ _ _ _ _ => pts_nil) (fun _ _ _ _ _ => (pe_op op_mod (pv 5) pe_int))))
      (pss_cons (ps_asg (pe_ix (show IxR _ (rIxL K) from ix_list) (pe_iE (pe_lst (pa_cons pe_int (pa_cons (pe_un un_neg pe_int) (pa_cons pe_bl (pa_cons pe_str (pa_cons pe_non (pa_cons (pe_lst (pa_cons pe_int pa_nil)) pa_nil)))))))) (pe_op op_mod (pv 1) pe_int) (fun _ _ => rfl)) (pg_sub (pv 4) (pe_op op_mod (pv 0) pe_int) set_list))
      (pss_cons (ps_kin (by decide) (ps_if (pt_cmpR (show OpR _ _ (rNeD K) from op_neD hr.units) (pe_kinds (i := 4) (by decide) T (lamT T B (by decide)) rfl hcv hr (by rfl) (LamX.lamS_by (by kernel_rfl)) rfl (fun _ _ _ _ _ => rfl) (fun A outer s H E f c' hr => (pe_fnx (fnx_spaced T) (hr.mono (by first | decide | omega)) (by rfl) tkLam (pa_cons (pv 4) (pa_cons pe_non pa_nil))))) (pe_fn (fn__law_due_of T) (hr.mono (by first | decide | omega)) (by rfl) (pa_cons pe_int pa_nil)) (nomark _)) (pss_one (ps_ret pe_bl)) pss_nil))
      (pss_cons (ps_kin (by decide) (ps_if (pt_cmpR (show OpR _ _ (rNeD K) from op_neD hr.units) (pe_kinds (i := 4) (by decide) T (lamT T B (by decide)) rfl hcv hr (by rfl) (LamX.lamS_by (by kernel_rfl)) rfl (fun _ _ _ _ _ => rfl) (fun A outer s H E f c' hr => (pe_fnx (fnx_widest T) (hr.mono (by first | decide | omega)) (by rfl) tkLam (pa_cons (pv 4) pa_nil)))) (pe_fn (fn__law_due_of T) (hr.mono (by first | decide | omega)) (by rfl) (pa_cons pe_int pa_nil)) (nomark _)) (pss_one (ps_ret pe_bl)) pss_nil))
      (pss_cons (ps_set (i := 6) sc__law_spoiled_right.nd rfl (by first | exact Or.inl rfl | exact Or.inr rfl) (pe_lc (own := [("_law_one", 5)]) (g := (gName 5)) (tt := tYes) (by rfl) sc__law_spoiled_right.nd (pi_range1 (by rfl) T.range (pa_cons pe_int pa_nil)) (blkOk_by (by kernel_rfl)) (fun _ _ _ _ _ => (pg_name (i := 5) sc__law_spoiled_right.nd rfl (by first | exact Or.inl rfl | exact Or.inr rfl))) (fun _ _ _ _ _ => pts_nil) (fun _ _ _ _ _ => (pe_iE (pe_lst (pa_cons (pe_op op_mod (pv 5) pe_int) pa_nil))))))
      (pss_cons (ps_asg (pe_ix (show IxR _ (rIxL K) from ix_list) (pe_iE (pe_lst (pa_cons (pe_lst pa_nil) (pa_cons (pe_lst (pa_cons pe_int (pa_cons pe_int pa_nil))) (pa_cons (pe_lst (pa_cons pe_int pa_nil)) (pa_cons (pe_lst (pa_cons pe_int (pa_cons pe_int (pa_cons pe_int (pa_cons pe_int pa_nil))))) (pa_cons pe_non (pa_cons (pe_tup (pa_cons pe_int pa_nil)) pa_nil)))))))) (pe_op op_mod (pv 1) pe_int) (fun _ _ => rfl)) (pg_sub (pv 6) (pe_op op_mod (pv 0) pe_int) set_list))
      (pss_cons (ps_set (i := 7) sc__law_spoiled_right.nd rfl (by first | exact Or.inl rfl | exact Or.inr rfl) (pe_iE (pe_op op_rep (pe_lst (pa_cons (pe_lst (pa_cons pe_int pa_nil)) pa_nil)) pe_int)))
      (pss_cons (ps_asg (pe_ix (show IxR _ (rIxL K) from ix_list) (pv 6) (pe_op op_mod (pv 0) pe_int) (fun _ _ => rfl)) (pg_sub (pv 7) (pe_op op_mod (pv 0) pe_int) set_list))
      (pss_cons (ps_kin (by decide) (ps_if (pt_cmpR (show OpR _ _ (rNeD K) from op_neD hr.units) (pe_kinds (i := 4) (by decide) T (lamT T B (by decide)) rfl hcv hr (by rfl) (LamX.lamS_by (by kernel_rfl)) rfl (fun _ _ _ _ _ => rfl) (fun A outer s H E f c' hr => (pe_fnx (fnx_least_gap T) (hr.mono (by first | decide | omega)) (by rfl) tkLam (pa_cons (pv 6) (pa_cons pe_non pa_nil))))) (pe_fn (fn__law_due_of T) (hr.mono (by first | decide | omega)) (by rfl) (pa_cons pe_int pa_nil)) (nomark _)) (pss_one (ps_ret pe_bl)) pss_nil))
      (pss_cons (ps_kin (by decide) (ps_if (pt_cmpR (show OpR _ _ (rNeD K) from op_neD hr.units) (pe_kinds (i := 4) (by decide) T (lamT T B (by decide)) rfl hcv hr (by rfl) (LamX.lamS_by (by kernel_rfl)) rfl (fun _ _ _ _ _ => rfl) (fun A outer s H E f c' hr => (pe_fnx (fnx_widest_few T) (hr.mono (by first | decide | omega)) (by rfl) tkLam (pa_cons (pv 7) pa_nil)))) (pe_fn (fn__law_due_of T) (hr.mono (by first | decide | omega)) (by rfl) (pa_cons pe_int pa_nil)) (nomark _)) (pss_one (ps_ret pe_bl)) pss_nil))
      (pss_cons (ps_set (i := 8) sc__law_spoiled_right.nd rfl (by first | exact Or.inl rfl | exact Or.inr rfl) (pe_listRg (by rfl) (by rfl) T.list (prg_1 (by rfl) T.range pe_int)))
      (pss_cons (ps_asg (pe_ix (show IxR _ (rIxL K) from ix_list) (pe_iE (pe_lst (pa_cons (pe_op op_mod (pe_op op_add (pv 0) pe_int) pe_int) (pa_cons pe_int (pa_cons (pe_un un_neg pe_int) (pa_cons pe_str (pa_cons pe_non (pa_cons (pe_lst (pa_cons pe_int pa_nil)) pa_nil)))))))) (pe_op op_mod (pv 1) pe_int) (fun _ _ => rfl)) (pg_sub (pv 8) (pe_op op_mod (pv 0) pe_int) set_list))
      (pss_one (ps_ret (pe_cmpR (show OpR _ _ (rEqD K) from op_eqD hr.units) (pe_kinds (i := 6) (by decide) T (lamT T B (by decide)) rfl hcv hr (by rfl) (LamX.lamS_by (by kernel_rfl)) rfl (fun _ _ _ _ _ => rfl) (fun A outer s H E f c' hr => (pe_fnx (fny_least_gap T) (hr.mono (by first | decide | omega)) (by rfl) tkLam (pa_cons (pe_iE (pe_op op_rep (pe_lst (pa_cons (pe_lst (pa_cons pe_int pa_nil)) pa_nil)) pe_int)) (pa_cons (pv 8) pa_nil))))) (pe_fn (fn__law_due_of T) (hr.mono (by first | decide | omega)) (by rfl) (pa_cons pe_int pa_nil)) (nomark _)))))))))))))))))))), ?_⟩
    have r0 := Int.emod_nonneg at_ (b := 6) (by decide)
    have r1 := Int.emod_lt_of_pos at_ (b := 6) (by decide)
    have none0 : ∀ (X : Hp), ∀ a ∈ ([] : List Addr), ∃ o, X a = some o := fun X a ha => by cases ha
    refine rd_setLS [] (none0 _) (gl_rep (k := 30) (gx_cons (gw_tup (gx_cons (gw_str (s := "sing")) (gx_cons gw_non gx_nil))) gx_nil) (by decide) (fun H Q h => h)) fun a1 vs1 H1 n1 s1 h1 x1 => ?_
    refine rd_setS [a1] (fun a ha => by rw [List.mem_singleton.mp ha]; exact ⟨_, h1⟩) (gw_lst (gx_cons gw_non (gx_cons (gw_tup (gx_cons (gw_str (s := "sing")) gx_nil)) (gx_cons (gw_lst (gx_cons (gw_str (s := "sing")) (gx_cons gw_non gx_nil))) (gx_cons (gw_tup (gx_cons (gw_str (s := "sing")) (gx_cons (gw_str (s := "0")) gx_nil))) (gx_cons (gw_tup (gx_cons (gw_str (s := "wish")) (gx_cons (gw_tup (gx_cons (gw_int (i := 0)) gx_nil)) (gx_cons (gw_int (i := 0)) (gx_cons (gw_int (i := 1)) gx_nil))))) (gx_cons (gw_tup (gx_cons (gw_str (s := "out")) (gx_cons gw_non gx_nil))) gx_nil))))))) fun v2 H2 s2 d2 => ?_
    obtain ⟨a2, vs2, rfl, h2, x2⟩ := dx_lst d2
    obtain ⟨y2, e2, hy2⟩ := dxAll_at x2 (n := at_ % 6) r0 r1
    have h12 := s2 _ _ h1
    have l1 := dxAll_len x1
    refine ⟨_, rfl, _, rfl, _, _, rfl, rfl, (show (0 : Int) < 6 by decide), a2, vs2, _, y2, rfl, rfl, SqL.of (off_some h2).2, e2, _, rfl, _, rfl, a1, vs1, place, place.toNat, rfl, rfl, h12, ixN_of p0 (by rw [l1]; simpa using p1), ?_⟩
    refine to_put fun H3 f3 h3 => ?_
    have x3 : DxAll (off [a1] H3) (vs1.set place.toNat y2) ((List.replicate (30 : Int).toNat (D.tup [.str "sing", .non])).set place.toNat (badPart.getD (at_ % 6).toNat .non)) := dxAll_mono (Fra.off f3) (dxAll_set hy2 _ (dxAll_mono (off_mono s2) x1))
    have e3 : LamX.ExtN H H3 := ext_fra (LamX.ExtN.of (s1.trans s2)) f3 (fun a ha => by rw [List.mem_singleton.mp ha]; exact n1)
    have t3 : LamX.Tabs (TL K) H3 := tabs_put (tb.ext (s1.trans s2)) h12 f3
    obtain ⟨np1, np2⟩ := badPart_no (at_ % 6).toNat (by omega)
    have dT : Dx (nt H3) (.ref a1) (.lst ((List.replicate (30 : Int).toNat (D.tup [.str "sing", .non])).set place.toNat (badPart.getD (at_ % 6).toNat .non))) := dx_nt (.lst h3 (dxAll_mono (off_le _ _) x3))
    refine ⟨t3, fun G1 g1 u1 E Q' hE => ?_⟩
    have z1 : Same (nt H3) G1 := same_ext (NT.nt H3) (nt_le H3) g1
    refine ⟨_, rfl, 4, _, _, rfl, by decide, by decide, dx_mono z1 dT, taleD_spoil (by simpa using (by omega : place.toNat < 30)) np1, fun ds e => by cases e; rw [List.length_set]; decide, fun ds e x hx => ?_, fun G2 g2 => hE _ fun G3 g3 => ?_⟩
    · cases e
      exact set_all (P := Sml) (fun y hy => by rw [(List.mem_replicate.mp hy).2]; exact smlB_ok rfl) (smlB_ok np2) x hx
    have g23 := g2.trans g3
    have eG3 : LamX.ExtN H G3 := (e3.trans g1).trans (LamX.ExtN.of g23)
    have tG3 : LamX.Tabs (TL K) G3 := u1.ext g23
    have pl0 := Int.emod_nonneg place (b := 24) (by decide)
    have pl1 := Int.emod_lt_of_pos place (b := 24) (by decide)
    -- songs
    dsimp only
    refine rd_set0 ?_
    refine ⟨24, rfl, by decide, by decide, fun D4 nD4 => lc_pure walk_range (fun _ _ _ h => h) trivial (fun j => some (.int ((0 + (j : Int)) % 6))) nD4 (by decide) ?_ ?_⟩
    · rintro j v X1 X2 hj sx ⟨rfl, rfl⟩ k kn hk _
      exact ⟨rfl, yes_of ⟨_, rfl, _, _, rfl, rfl, (show (0 : Int) < 6 by decide), hk _ _ rfl (Same.refl _)⟩⟩
    intro H4 s4 h4
    have h4 : H4 D4 = some (.lst (sixes.map V.int)) := by rw [h4]; exact congrArg (fun l => some (HO.lst l)) (by decide +kernel)
    dsimp only
    refine seq_asg ?_
    refine rd_ixS [D4] (fun a ha => by rw [List.mem_singleton.mp ha]; exact ⟨_, h4⟩) (gw_lst (gx_cons (gw_int (i := 6)) (gx_cons (gw_num (n := -1) (fun H Q h => ⟨_, rfl, h⟩)) (gx_cons (gw_bl (b := true)) (gx_cons (gw_str (s := "0")) (gx_cons gw_non (gx_cons (gw_lst (gx_cons (gw_int (i := 0)) gx_nil)) gx_nil))))))) (n := at_ % 6) r0 r1 (fun X R hR => ⟨_, rfl, _, _, rfl, rfl, (show (0 : Int) < 6 by decide), hR⟩) fun y5 H5 s5 hy5 => ?_
    have h45 := s5 _ _ h4
    refine ⟨_, rfl, _, rfl, _, _, rfl, rfl, (show (0 : Int) < 24 by decide), D4, _, place % 24, (place % 24).toNat, rfl, rfl, h45, ixN_of pl0 (by rw [List.length_map]; exact pl1), ?_⟩
    refine to_put fun H6 f6 h6 => ?_
    have x6 : DxAll (off [D4] H6) ((sixes.map V.int).set (place % 24).toNat y5) ((sixes.map D.int).set (place % 24).toNat (badSong.getD (at_ % 6).toNat .non)) := dxAll_mono (Fra.off f6) (dxAll_set hy5 _ (dxAll_intsD sixes))
    have s36 : Same G3 H6 := Fra.back (s4.trans s5) f6 (fun a ha => by rw [List.mem_singleton.mp ha]; exact nD4)
    have e6 : LamX.ExtN H H6 := eG3.trans (LamX.ExtN.of s36)
    have t6 : LamX.Tabs (TL K) H6 := tabs_put (tG3.ext (s4.trans s5)) h45 f6
    have dS : Dx (nt H6) (.ref D4) (.lst ((sixes.map D.int).set (place % 24).toNat (badSong.getD (at_ % 6).toNat .non))) := dx_nt (.lst h6 (dxAll_mono (off_le _ _) x6))
    have sl : songsD (.lst ((sixes.map D.int).set (place % 24).toNat (badSong.getD (at_ % 6).toNat .non))) = false := songsD_spoil (by rw [List.length_map]; show _ < 24; omega) (badSong_no _ (by omega))
    have fl : Few (.lst ((sixes.map D.int).set (place % 24).toNat (badSong.getD (at_ % 6).toNat .non))) := fun ds e => by cases e; rw [List.length_set, List.length_map]; decide
    refine ⟨t6, fun J1 j1 u1 E Q' hE => ?_⟩
    have z1 : Same (nt H6) J1 := same_ext (NT.nt H6) (nt_le H6) j1
    refine ⟨_, rfl, _, _, rfl, _, _, rfl, dx_mono z1 dS, sl, fl, fun J2 j2 => hE _ fun J3 j3 => ?_⟩
    refine ⟨u1.ext (j2.trans j3), fun J4 j4 u4 E Q' hE => ?_⟩
    have y4 := (j1.trans (LamX.ExtN.of (j2.trans j3))).trans j4
    have z4 : Same (nt H6) J4 := same_ext (NT.nt H6) (nt_le H6) y4
    refine ⟨_, rfl, _, _, rfl, dx_mono z4 dS, sl, fl, fun J5 j5 => hE _ fun J6 j6 => ?_⟩
    have eJ6 : LamX.ExtN H J6 := (e6.trans y4).trans (LamX.ExtN.of (j5.trans j6))
    have tJ6 : LamX.Tabs (TL K) J6 := u4.ext (j5.trans j6)
    -- groups
    dsimp only
    refine rd_set0 ?_
    refine ⟨24, rfl, by decide, by decide, fun D7 nD7 => lc_all walk_range (fun _ _ _ h => h) trivial (fun j X y => Dx X y (.lst [.int ((0 + (j : Int)) % 6)])) (fun i X1 X2 y sx hx => dx_mono sx hx) nD7 (by decide) ?_ ?_ gname_mono⟩
    · rintro j v X1 X2 acc hj sx hD ⟨rfl, rfl⟩ k hk
      refine ⟨rfl, ?_⟩
      refine iE_of ⟨_, rfl, _, _, rfl, rfl, (show (0 : Int) < 6 by decide), by show 1 ≤ sizeLine; decide, fun a na => ?_⟩
      refine hk _ _ (Same.new na) (.lst ?_ (.cons (.int _) .nil))
      rw [off_out (by simp; exact (ne_of_none hD na).symm)]
      exact upd_same
    intro vs7 H7 s7 h7 l7 x7
    have x7 := dxAll_fun (f := fun j => D.lst [.int ((0 + (j : Int)) % 6)]) x7
    rw [l7] at x7
    dsimp only
    refine seq_asg ?_
    refine rd_ixS [D7] (fun a ha => by rw [List.mem_singleton.mp ha]; exact ⟨_, h7⟩) (gw_lst (gx_cons (gw_lst gx_nil) (gx_cons (gw_lst (gx_cons (gw_int (i := 1)) (gx_cons (gw_int (i := 0)) gx_nil))) (gx_cons (gw_lst (gx_cons (gw_int (i := 6)) gx_nil)) (gx_cons (gw_lst (gx_cons (gw_int (i := 0)) (gx_cons (gw_int (i := 1)) (gx_cons (gw_int (i := 2)) (gx_cons (gw_int (i := 3)) gx_nil))))) (gx_cons gw_non (gx_cons (gw_tup (gx_cons (gw_int (i := 0)) gx_nil)) gx_nil))))))) (n := at_ % 6) r0 r1 (fun X R hR => ⟨_, rfl, _, _, rfl, rfl, (show (0 : Int) < 6 by decide), hR⟩) fun y8 H8 s8 hy8 => ?_
    have h78 := s8 _ _ h7
    refine ⟨_, rfl, _, rfl, _, _, rfl, rfl, (show (0 : Int) < 24 by decide), D7, _, place % 24, (place % 24).toNat, rfl, rfl, h78, ixN_of pl0 (by rw [l7]; exact pl1), ?_⟩
    refine to_put fun H9 f9 h9 => ?_
    have x9 := dxAll_mono (Fra.off f9) (dxAll_set hy8 (place % 24).toNat (dxAll_mono (off_mono s8) x7))
    have s69 : Same J6 H9 := Fra.back (s7.trans s8) f9 (fun a ha => by rw [List.mem_singleton.mp ha]; exact nD7)
    have t9 : LamX.Tabs (TL K) H9 := tabs_put (tJ6.ext (s7.trans s8)) h78 f9
    -- few
    dsimp only
    refine rd_setLS [] (none0 _) (gl_rep (k := 5) (gx_cons (gw_lst (gx_cons (gw_int (i := 0)) gx_nil)) gx_nil) (by decide) (fun H Q h => h)) fun a10 vs10 H10 n10 s10 h10 x10 => ?_
    have l10 := dxAll_len x10
    have q0 := Int.emod_nonneg place (b := 5) (by decide)
    have q1 := Int.emod_lt_of_pos place (b := 5) (by decide)
    have x9' : DxAll (off [a10] H10) _ _ := dxAll_mono (same_offnew s10 n10) (dxAll_mono (off_le _ _) x9)
    obtain ⟨y11, e11, hy11⟩ := dxAll_at x9' (n := place % 24) pl0 (by rw [List.length_set, List.length_map, List.length_range]; exact pl1)
    have ed : (((List.range 24).map fun j : Nat => D.lst [.int ((0 + (j : Int)) % 6)]).set (place % 24).toNat (badGroup.getD (at_ % 6).toNat .non)).getD (place % 24).toNat .non = badGroup.getD (at_ % 6).toNat .non := by
      rw [List.getD_eq_getElem?_getD, List.getElem?_set_self (by rw [List.length_map, List.length_range]; omega)]; rfl
    refine ⟨_, rfl, _, rfl, _, _, rfl, rfl, (show (0 : Int) < 24 by decide), D7, _, _, y11, rfl, rfl, SqL.of (s10 _ _ h9), e11, _, rfl, _, rfl, _, _, rfl, rfl, (show (0 : Int) < 5 by decide), a10, vs10, place % 5, (place % 5).toNat, rfl, rfl, h10, ixN_of q0 (by rw [l10]; exact q1), ?_⟩
    refine to_put fun H11 f11 h11 => ?_
    have x11 : DxAll (off [a10] H11) (vs10.set (place % 5).toNat y11) ((List.replicate (5 : Int).toNat (D.lst [.int 0])).set (place % 5).toNat (badGroup.getD (at_ % 6).toNat .non)) := dxAll_mono (Fra.off f11) (dxAll_set (by rw [← ed]; exact hy11) _ x10)
    have x9'' : DxAll (off [a10] H11) _ _ := dxAll_mono (Fra.off f11) x9'
    have h911 : H11 D7 = some (.lst _) := f11.one (ne_of_none h9 n10) (s10 _ _ h9)
    have s611 : Same J6 H11 := s69.trans (Fra.back s10 f11 (fun a ha => by rw [List.mem_singleton.mp ha]; exact n10))
    have t11 : LamX.Tabs (TL K) H11 := tabs_put (t9.ext s10) h10 f11
    obtain ⟨g1', g2'⟩ := badGroup_no (at_ % 6).toNat (by omega)
    have dG : Dx (nt H11) (.ref D7) (.lst (((List.range 24).map fun j : Nat => D.lst [.int ((0 + (j : Int)) % 6)]).set (place % 24).toNat (badGroup.getD (at_ % 6).toNat .non))) := dx_nt (.lst h911 (dxAll_mono (off_le _ _) x9''))
    have dF : Dx (nt H11) (.ref a10) (.lst ((List.replicate (5 : Int).toNat (D.lst [.int 0])).set (place % 5).toNat (badGroup.getD (at_ % 6).toNat .non))) := dx_nt (.lst h11 (dxAll_mono (off_le _ _) x11))
    refine ⟨t11, fun J1 j1 u1 E Q' hE => ?_⟩
    have z1 : Same (nt H11) J1 := same_ext (NT.nt H11) (nt_le H11) j1
    refine ⟨_, rfl, _, _, rfl, _, _, _, rfl, dx_mono z1 dG, groupsD_spoil (by rw [List.length_map, List.length_range]; omega) g1', fun ds e => by cases e; rw [List.length_set, List.length_map]; decide, fun ds e x hx => ?_, fun J2 j2 => hE _ fun J3 j3 => ?_⟩
    · cases e
      exact set_all (P := Few) (fun y hy => by
        obtain ⟨n, _, rfl⟩ := List.mem_map.mp hy
        exact fewB_ok rfl) (fewB_ok g2') x hx
    refine ⟨u1.ext (j2.trans j3), fun J4 j4 u4 E Q' hE => ?_⟩
    have y4' := (j1.trans (LamX.ExtN.of (j2.trans j3))).trans j4
    have z4 : Same (nt H11) J4 := same_ext (NT.nt H11) (nt_le H11) y4'
    refine ⟨_, rfl, _, rfl, _, _, _, rfl, dx_mono z4 dF, groupsD_spoil (by rw [List.length_replicate]; show _ < 5; omega) g1', fun ds e => by cases e; rw [List.length_set]; decide, fun ds e x hx => ?_, fun J5 j5 => hE _ fun J7 j7 => ?_⟩
    · cases e
      exact set_all (P := Few) (fun y hy => by rw [(List.mem_replicate.mp hy).2]; exact fewB_ok rfl) (fewB_ok g2') x hx
    have eJ7 : LamX.ExtN H J7 := ((eJ6.trans (LamX.ExtN.of s611)).trans y4').trans (LamX.ExtN.of (j5.trans j7))
    have tJ7 : LamX.Tabs (TL K) J7 := u4.ext (j5.trans j7)
    -- order
    dsimp only
    refine rd_set0 ?_
    refine ⟨24, rfl, ⟨by decide, by decide, by decide, by decide, by decide⟩, fun a12 n12 => ?_⟩
    rw [show rgV 0 (24 : Int) = (upto 24).map V.int from rg0 24]
    refine to_new n12 fun H12 s12 h12 => ?_
    dsimp only
    refine seq_asg ?_
    refine rd_ixS [a12] (fun a ha => by rw [List.mem_singleton.mp ha]; exact ⟨_, h12⟩) (gw_lst (gx_cons (gw_num (fun H Q h => ⟨_, rfl, _, _, rfl, rfl, _, _, rfl, rfl, (show (0 : Int) < 24 by decide), h⟩)) (gx_cons (gw_int (i := 24)) (gx_cons (gw_num (n := -1) (fun H Q h => ⟨_, rfl, h⟩)) (gx_cons (gw_str (s := "1")) (gx_cons gw_non (gx_cons (gw_lst (gx_cons (gw_int (i := 1)) gx_nil)) gx_nil))))))) (n := at_ % 6) r0 r1 (fun X R hR => ⟨_, rfl, _, _, rfl, rfl, (show (0 : Int) < 6 by decide), hR⟩) fun y13 H13 s13 hy13 => ?_
    have h123 := s13 _ _ h12
    refine ⟨_, rfl, _, rfl, _, _, rfl, rfl, (show (0 : Int) < 24 by decide), a12, _, place % 24, (place % 24).toNat, rfl, rfl, h123, ixN_of pl0 (by rw [List.length_map, upto_len]; exact pl1), ?_⟩
    refine to_put fun H14 f14 h14 => ?_
    have x14 := dxAll_mono (Fra.off f14) (dxAll_set hy13 (place % 24).toNat (dxAll_intsD (upto 24)))
    have s714 : Same J7 H14 := Fra.back (s12.trans s13) f14 (fun a ha => by rw [List.mem_singleton.mp ha]; exact n12)
    have t14 : LamX.Tabs (TL K) H14 := tabs_put (tJ7.ext (s12.trans s13)) h123 f14
    have dO := dx_nt (.lst h14 (dxAll_mono (off_le _ _) x14))
    refine ⟨t14, fun J1 j1 u1 Q' => ?_⟩
    have z1 : Same (nt H14) J1 := same_ext (NT.nt H14) (nt_le H14) j1
    refine rd_dat (d := rowsD (List.replicate 24 [0])) (gv_rep (k := 24) (ga_cons (gv_lst (ga_cons (gv_int (i := 0)) ga_nil)) ga_nil) (by decide) (fun H Q h => h)) fun c3 J2 j2 dc3 => ?_
    obtain ⟨ar, cs, rfl, har, hR⟩ := dx_rows (K := K) dc3
    refine ⟨_, rfl, ar, _, cs, List.replicate 24 [0], _, rfl, SqL.of har, hR, fun r hr => by rw [(List.mem_replicate.mp hr).2]; decide +kernel, by decide, dx_mono (z1.trans j2) dO, fun ds e => by cases e; rw [List.length_set, List.length_map, upto_len]; decide, ?_, fun J3 j3 => ⟨rfl, rfl, fun k1 J4 j4 hk1 => ?_⟩⟩
    · rw [List.length_replicate]
      refine ord_spoil (by omega) fun hw => ?_
      have hc : (at_ % 6).toNat = 0 ∨ (at_ % 6).toNat = 1 ∨ (at_ % 6).toNat = 2 ∨ (at_ % 6).toNat = 3 ∨ (at_ % 6).toNat = 4 ∨ (at_ % 6).toNat = 5 := by omega
      rcases hc with e | e | e | e | e | e <;> rw [e] at hw ⊢
      · exact ⟨_, rfl, by omega⟩
      · exact ⟨_, rfl, by omega⟩
      · exact ⟨_, rfl, by omega⟩
      · cases hw
      · cases hw
      · cases hw
    refine ⟨6, rfl, by decide, fun k2 J5 n5 j5 hk2 => ?_⟩
    refine ⟨_, _, dp_due (j5 _ _ hk1), dp_due hk2, (due_eqv 6 (by decide)).2, (due_eqv 6 (by decide)).2, ?_⟩
    rw [(due_eqv 6 (by decide)).1]
    have jj := j2.trans (j3.trans (j4.trans j5))
    exact q _ (((eJ7.trans (LamX.ExtN.of s714)).trans j1).trans (LamX.ExtN.of jj)) (u1.ext jj)
end
end Song

/-! ### H2: _law_exchanged_right of k13 -/
namespace Song
open PySem L2
section
variable {J : It} {n : Nat} {G : Hp → Prop} {Y : Nat → Hp → V → Hp → Prop} {g : TG} {te : TE} {vs : List Nat} {σ : L2.St} {H1 : Hp} {D : Addr} {Qd : Hp → Prop}
/-- no test; each element is a new list, so no two are one -/
theorem lc_new (w : Walk J n G Y) (hY : ∀ i H x H', Y i H x H' → H' = H) (hGm : ∀ H H', Same H H' → G H → G H') (hG : G H1) (f : Nat → List V) (nD : H1 D = none) (hlen : n ≤ 1000)
    (hs : ∀ (i : Nat) x H, i < n → Same H1 H → Y i H x H → ∀ k : V → Hp → Prop, (∀ b H2, H b = none → Same H H2 → H2 b = some (.lst (f i)) → k (.ref b) H2) →
      g x (wipe σ vs) H fun σ2 H2 => wipe σ2 vs = wipe σ vs ∧ te σ2 H2 k)
    (hd : ∀ (bs : List Addr) H, Same H1 H → H D = some (.lst (bs.map V.ref)) → bs.length = n → bs.Nodup → (∀ (i : Nat) b, bs[i]? = some b → H b = some (.lst (f i)) ∧ H1 b = none ∧ b ≠ D) → Qd H)
    (hg : ∀ x σ H Q Q', (∀ σ2 H2, Q σ2 H2 → Q' σ2 H2) → g x σ H Q → g x σ H Q') : LcAsks J g tYes te vs σ H1 D Qd := by
  refine lc_it w (fun i H => Same H1 H ∧ ∃ bs : List Addr, H D = some (.lst (bs.map V.ref)) ∧ bs.length = i ∧ bs.Nodup ∧ ∀ (j : Nat) b, bs[j]? = some b → H b = some (.lst (f j)) ∧ H1 b = none ∧ b ≠ D) ?_ ?_ ?_ ?_
  · exact ⟨Same.new nD, [], upd_same, rfl, List.nodup_nil, fun j y e => by simp at e⟩
  · intro i H _ h
    exact hGm _ _ h.1 hG
  · rintro i x H H' hi ⟨s, bs, hD, hl, nd, hb⟩ hy
    have e := hY _ _ _ _ hy
    subst e
    refine hg _ _ _ _ _ (fun σ2 H2 h => ?_) (hs i x H' hi s hy (fun y H4 => ∃ acc, H4 D = some (.lst acc) ∧ acc.length < sizeLine ∧ (Same H1 (upd H4 D (.lst (acc ++ [y]))) ∧ ∃ bs : List Addr, (upd H4 D (.lst (acc ++ [y]))) D = some (.lst (bs.map V.ref)) ∧ bs.length = i + 1 ∧ bs.Nodup ∧ ∀ (j : Nat) b, bs[j]? = some b → (upd H4 D (.lst (acc ++ [y]))) b = some (.lst (f j)) ∧ H1 b = none ∧ b ≠ D)) ?_)
    · refine ⟨h.1, ?_⟩
      unfold tYes
      dsimp only
      rw [if_pos rfl]
      exact h.2
    · intro b H4 nb s4 hb4
      have nbD : b ≠ D := (ne_of_none hD nb).symm
      refine ⟨bs.map V.ref, s4 _ _ hD, Nat.lt_of_le_of_lt (show (bs.map V.ref).length ≤ 1000 by rw [List.length_map]; omega) (by decide), same_put nD (s.trans s4), bs ++ [b], by rw [upd_same, List.map_append]; rfl, by rw [List.length_append, hl]; rfl, ?_, fun j c e => ?_⟩
      · rw [List.nodup_append]
        refine ⟨nd, by simp, fun c hc d hd z => ?_⟩
        rw [List.mem_singleton.mp hd] at z
        obtain ⟨j, hj, ej⟩ := List.mem_iff_getElem.mp hc
        have := (hb j c (by rw [List.getElem?_eq_getElem hj, ej])).1
        rw [z, nb] at this; cases this
      · by_cases hj : j < bs.length
        · rw [List.getElem?_append_left hj] at e
          obtain ⟨q1, q2, q3⟩ := hb j c e
          exact ⟨by rw [upd_ne q3]; exact s4 _ _ q1, q2, q3⟩
        · have ej : j = bs.length := by
            have := (List.getElem?_eq_some_iff.mp e).1
            simp at this; omega
          subst ej
          rw [List.getElem?_append_right (Nat.le_refl _)] at e
          simp at e
          subst e
          exact ⟨by rw [upd_ne nbD, hl]; exact hb4, s.free nb, nbD⟩
  · rintro H ⟨s, bs, hD, hl, nd, hb⟩
    exact hd bs H s hD hl nd hb
end
def R6 : List (List Int) := sixes.map fun x => [x]
/-- two neighbours exchanged -/
def xch (p : Nat) : List Int := ((upto 24).set p ((p : Int) + 1)).set (p + 1) p
theorem lg0 : least (pick R6 (upto 24)) = some 5 := by decide +kernel
theorem wd6 : widest sixes = some 5 := by decide +kernel
theorem sh0 : showsSp sixes (upto 24) 5 = true := by decide +kernel
theorem lg1 : ∀ p : Nat, p < 23 → least (pick R6 (xch p)) = some 4 := by decide +kernel
theorem sh1 : ∀ p : Nat, p < 23 → showsSp sixes (xch p) 5 = false ∧ showsSp sixes (xch p) 4 = true := by decide +kernel
theorem lg2 : ∀ p : Nat, p < 23 → least (pick (R6.set (p + 1) [sixes.getD p 0]) (upto 24)) = some 0 := by decide +kernel
theorem xch_perm : ∀ p : Nat, p < 23 → (xch p).Perm (upto 24) := by decide +kernel
theorem xch_back : ∀ p : Nat, p < 23 → ((xch p).set p p).set (p + 1) ((p : Int) + 1) = upto 24 := by decide +kernel
theorem xch_at : ∀ p : Nat, p < 23 → (xch p).getD p 0 = (p : Int) + 1 ∧ (xch p).getD (p + 1) 0 = p ∧ (upto 24).getD p 0 = p ∧ (upto 24).getD (p + 1) 0 = (p : Int) + 1 := by decide +kernel
def fewA : List (List Int) := [[0], [1], [0], [2], [1]]
theorem few2 : (widestFew fewA).1 = some 2 ∧ (widestFew [[0], [1], [3], [2], [1]]).1 = some 3 := by decide +kernel
theorem few_shp : SeqAt.shaped (.tuple [.int 2, .list ((widestFew fewA).2.map PyData.int)]) = true := by decide +kernel
theorem few_eqv : PyData.eqv (.tuple [.int 2, .list ((widestFew fewA).2.map PyData.int)]) (.tuple [.int 2, .list ((widestFew fewA).2.map PyData.int)]) = true := by decide +kernel
theorem sixes_ok : SongsOk sixes := ⟨by decide, by unfold SgOk; decide +kernel⟩
theorem R6_ok : GrOk R6 := by unfold GrOk; decide +kernel
section
variable {P : Program} {w : World} {K : PySem.W.Frag} {mg : Str → Option Value} {base : Heap}
theorem sc__law_exchanged_right : FnScope ["_law_place", "_law_songs", "_law_at", "_law_groups", "_law_order", "_law_singer", "_law_told", "_law_few", "_law_kept"] ["_law_place"] (defScope s__law_exchanged_right) := ⟨rfl, rfl, rfl, by decide +kernel, rfl, by decide +kernel, by decide +kernel⟩
def sp_exchanged : Sp := fun vs H Q _ => ∃ place : Int, vs = [.int place] ∧ 0 ≤ place ∧ place < 23 ∧ ∀ H', Same H H' → Q (.bl true) H'
theorem fn__law_exchanged_right (T : Tx K mg) : Fn P w K mg base "_law_exchanged_right" 7 sp_exchanged := by
  obtain ⟨fd, F⟩ := T.d__law_exchanged_right
  refine ⟨_, fd, _, F.ok (CX := CX0) sc__law_exchanged_right (fun vs H Q E h => ?_) (fun cdv A outer s H vs Q E hr h => ?_), T.g__law_exchanged_right, F.kp, F.bindsN fun _ _ _ _ _ _ us hl => match us, hl with | [_], _ => rfl⟩
  · obtain ⟨place, rfl, _⟩ := h; rfl
  · obtain ⟨place, rfl, p0, p1, q⟩ := h
    obtain ⟨pl, rfl⟩ : ∃ pl : Nat, place = pl := ⟨place.toNat, by omega⟩
    have hpl : pl < 23 := by omega
    refine ⟨_, PSs.nox (pss_cons (ps_setLc (i := 1) (own := [("_law_at", 2)]) (g := (gName 2)) (tt := tYes) (by rfl) sc__law_exchanged_right.nd rfl rfl (sw_true rfl rfl rfl (by decide +kernel)) (pi_range1 (by rfl) T.range (pa_cons pe_int pa_nil)) (blkOk_by (by kernel_rfl)) (fun _ _ _ _ _ => (pg_name (i := 2) sc__law_exchanged_right.nd rfl (by first | exact Or.inl rfl | exact Or.inr rfl))) (fun _ _ _ _ _ => pts_nil) (fun _ _ _ _ _ => (pe_op op_mod (pv 2) pe_int)))
      (pss_cons (ps_par (i := 3) (j := 4) (by rfl) sc__law_exchanged_right.nd rfl rfl (by decide) rfl rfl (pa_cons (pe_lc (own := [("_law_singer", 5)]) (g := (gName 5)) (tt := tYes) (by rfl) sc__law_exchanged_right.nd (show PI _ _ _ (iList K _) from pi_list (pv 1)) (blkOk_by (by kernel_rfl)) (fun _ _ _ _ _ => (pg_name (i := 5) sc__law_exchanged_right.nd rfl (by first | exact Or.inl rfl | exact Or.inr rfl))) (fun _ _ _ _ _ => pts_nil) (fun _ _ _ _ _ => (pe_iE (pe_lst (pa_cons (pv 5) pa_nil))))) (pa_cons (pe_listRg (by rfl) (by rfl) T.list (prg_1 (by rfl) T.range pe_int)) pa_nil)) (by rfl))
      (pss_cons (ps_if (pt_cmpR (show OpR _ _ (rNeD K) from op_neD hr.units) (pe_iE (pe_lst (pa_cons (pe_fn (fn_least_gap T) (hr.mono (by first | decide | omega)) (by rfl) (pa_cons (pv 3) (pa_cons (pv 4) pa_nil))) (pa_cons (pe_fn (fn_widest T) (hr.mono (by first | decide | omega)) (by rfl) (pa_cons (pv 1) pa_nil)) (pa_cons (pe_me (me_Spaced_shows T) (hr.mono (by first | decide | omega)) (pe_mk (mk_Spaced T) (hr.mono (by first | decide | omega)) (by rfl) (pa_cons (pv 4) pa_nil)) (pa_cons (pv 1) (pa_cons pe_int pa_nil))) pa_nil))))) (pe_iE (pe_lst (pa_cons pe_int (pa_cons pe_int (pa_cons pe_bl pa_nil))))) (nomark _)) (pss_one (ps_ret pe_bl)) pss_nil)
      (pss_cons (ps_asg (pe_tup (pa_cons (pe_ix (show IxR _ (rIxL K) from ix_list) (pv 4) (pe_op op_add (pv 0) pe_int) (fun _ _ => rfl)) (pa_cons (pe_ix (show IxR _ (rIxL K) from ix_list) (pv 4) (pv 0) (fun _ _ => rfl)) pa_nil))) (show PG _ _ (gTup K _ _) from pg_tup rfl (pgs_cons (pg_sub (pv 4) (pv 0) set_list) (pgs_cons (pg_sub (pv 4) (pe_op op_add (pv 0) pe_int) set_list) pgs_nil))))
      (pss_cons (ps_set (i := 6) sc__law_exchanged_right.nd rfl (by first | exact Or.inl rfl | exact Or.inr rfl) (pe_iE (pe_lst (pa_cons (pe_fn (fn_least_gap T) (hr.mono (by first | decide | omega)) (by rfl) (pa_cons (pv 3) (pa_cons (pv 4) pa_nil))) (pa_cons (pe_me (me_Spaced_shows T) (hr.mono (by first | decide | omega)) (pe_mk (mk_Spaced T) (hr.mono (by first | decide | omega)) (by rfl) (pa_cons (pv 4) pa_nil)) (pa_cons (pv 1) (pa_cons pe_int pa_nil))) (pa_cons (pe_me (me_Spaced_shows T) (hr.mono (by first | decide | omega)) (pe_mk (mk_Spaced T) (hr.mono (by first | decide | omega)) (by rfl) (pa_cons (pv 4) pa_nil)) (pa_cons (pv 1) (pa_cons pe_int pa_nil))) pa_nil))))))
      (pss_cons (ps_if (pt_cmpR (show OpR _ _ (rNeD K) from op_neD hr.units) (pv 6) (pe_iE (pe_lst (pa_cons pe_int (pa_cons pe_bl (pa_cons pe_bl pa_nil))))) (nomark _)) (pss_one (ps_ret pe_bl)) pss_nil)
      (pss_cons (ps_asg (pe_tup (pa_cons (pe_ix (show IxR _ (rIxL K) from ix_list) (pv 4) (pe_op op_add (pv 0) pe_int) (fun _ _ => rfl)) (pa_cons (pe_ix (show IxR _ (rIxL K) from ix_list) (pv 4) (pv 0) (fun _ _ => rfl)) pa_nil))) (show PG _ _ (gTup K _ _) from pg_tup rfl (pgs_cons (pg_sub (pv 4) (pv 0) set_list) (pgs_cons (pg_sub (pv 4) (pe_op op_add (pv 0) pe_int) set_list) pgs_nil))))
      (pss_cons (ps_asg (pe_ix (show IxR _ (rIxL K) from ix_list) (pe_ix (show IxR _ (rIxL K) from ix_list) (pv 3) (pv 0) (fun _ _ => rfl)) pe_int (fun _ _ => rfl)) (pg_sub (pe_ix (show IxR _ (rIxL K) from ix_list) (pv 3) (pe_op op_add (pv 0) pe_int) (fun _ _ => rfl)) pe_int set_list))
      (pss_cons (ps_if (pt_cmpR op_ne (pe_fn (fn_least_gap T) (hr.mono (by first | decide | omega)) (by rfl) (pa_cons (pv 3) (pa_cons (pv 4) pa_nil))) pe_int (nomark _)) (pss_one (ps_ret pe_bl)) pss_nil)
      (pss_cons (ps_set (i := 7) sc__law_exchanged_right.nd rfl (by first | exact Or.inl rfl | exact Or.inr rfl) (pe_iE (pe_lst (pa_cons (pe_lst (pa_cons pe_int pa_nil)) (pa_cons (pe_lst (pa_cons pe_int pa_nil)) (pa_cons (pe_lst (pa_cons pe_int pa_nil)) (pa_cons (pe_lst (pa_cons pe_int pa_nil)) (pa_cons (pe_lst (pa_cons pe_int pa_nil)) pa_nil))))))))
      (pss_cons (ps_set (i := 8) sc__law_exchanged_right.nd rfl (by first | exact Or.inl rfl | exact Or.inr rfl) (pe_fn (fn_widest_few T) (hr.mono (by first | decide | omega)) (by rfl) (pa_cons (pv 7) pa_nil)))
      (pss_cons (ps_asg pe_int (pg_sub (pe_ix (show IxR _ (rIxL K) from ix_list) (pv 7) pe_int (fun _ _ => rfl)) pe_int set_list))
      (pss_one (ps_ret (pe_and (pe_cmpR op_eq (pe_ix (show IxR _ (rIxT K) from ix_tup) (pv 8) pe_int (fun _ _ => rfl)) pe_int (nomark _)) (pe_and (pe_cmpR op_eq (pe_ix (show IxR _ (rIxT K) from ix_tup) (pe_fn (fn_widest_few T) (hr.mono (by first | decide | omega)) (by rfl) (pa_cons (pv 7) pa_nil)) pe_int (fun _ _ => rfl)) pe_int (nomark _)) (pe_one (pe_cmpR (show OpR _ _ (rEqD K) from op_eqD hr.units) (pe_fn (fn_widest_few T) (hr.mono (by first | decide | omega)) (by rfl) (pa_cons (pe_iE (pe_lst (pa_cons (pe_lst (pa_cons pe_int pa_nil)) (pa_cons (pe_lst (pa_cons pe_int pa_nil)) (pa_cons (pe_lst (pa_cons pe_int pa_nil)) (pa_cons (pe_lst (pa_cons pe_int pa_nil)) (pa_cons (pe_lst (pa_cons pe_int pa_nil)) pa_nil))))))) pa_nil)) (pv 8) (nomark _))))))))))))))))))), ?_⟩
    refine rd_set0 ?_
    refine ⟨24, rfl, by decide, by decide, fun D1 nD1 => lc_pure walk_range (fun _ _ _ h => h) trivial (fun j => some (.int ((0 + (j : Int)) % 6))) nD1 (by decide) ?_ ?_⟩
    · rintro j v X1 X2 hj sx ⟨rfl, rfl⟩ k kn hk _
      exact ⟨rfl, yes_of ⟨_, rfl, _, _, rfl, rfl, (show (0 : Int) < 6 by decide), hk _ _ rfl (Same.refl _)⟩⟩
    intro H1 s1 h1
    have h1 : H1 D1 = some (.lst (sixes.map V.int)) := by rw [h1]; exact congrArg (fun l => some (HO.lst l)) (by decide +kernel)
    refine ⟨_, rfl, D1, rfl, ⟨_, SqL.of h1⟩, fun D2 nD2 => lc_new walk_list (fun _ _ _ _ h => h.1) sqL_mono (SqL.of h1) (fun i => [V.int (sixes.getD i 0)]) nD2 (by decide) ?_ ?_ gname_mono⟩
    · rintro i x X hi sx ⟨_, hx⟩ k hk
      obtain ⟨m, rfl, hm⟩ := int_at hx
      refine ⟨rfl, iE_of ⟨_, rfl, by show 1 ≤ sizeLine; decide, fun b nb => hk b _ nb (Same.new nb) ?_⟩⟩
      rw [upd_same, List.getD_eq_getElem?_getD, hm]; rfl
    intro bs H2 s2 h2 lb nd hbs
    have lb : bs.length = 24 := lb
    refine ⟨24, rfl, ⟨by decide, by decide, by decide, by decide, by decide⟩, fun a3 n3 => ?_⟩
    rw [show rgV 0 (24 : Int) = (upto 24).map V.int from rg0 24]
    refine to_new n3 fun H3 s3 h3 => ?_
    refine ⟨_, _, rfl, ?_⟩
    have h13 := s3 _ _ (s2 _ _ h1)
    have h23 := s3 _ _ h2
    -- the rows
    have rows : ∀ (X : Hp), (∀ (i : Nat) b, bs[i]? = some b → X b = some (.lst [V.int (sixes.getD i 0)])) → Rows K X (bs.map V.ref) R6 := fun X hX => by
      refine ⟨by rw [List.length_map, lb]; rfl, fun i v e => ?_⟩
      rw [List.getElem?_map] at e
      cases eb : bs[i]? with
      | none => rw [eb] at e; cases e
      | some b =>
        rw [eb] at e
        have hi : i < 24 := by have := (List.getElem?_eq_some_iff.mp eb).1; omega
        refine ⟨b, (Option.some.inj e).symm, ?_⟩
        have er : R6.getD i [] = [sixes.getD i 0] := by
          unfold R6
          rw [List.getD_eq_getElem?_getD, List.getElem?_map, List.getD_eq_getElem?_getD, List.getElem?_eq_getElem (show i < sixes.length from hi)]; rfl
        rw [er]
        exact SqL.of (hX i b eb)
    have R3 : Rows K H3 (bs.map V.ref) R6 := rows H3 fun i b e => s3 _ _ (hbs i b e).1
    dsimp only
    refine seq_if ?_
    refine iE_of ?_
    refine ⟨_, rfl, _, rfl, D2, a3, _, R6, upto 24, rfl, SqL.of h23, R3, R6_ok, by decide, SqL.of h3, by show (upto 24).Perm (upto 24); exact List.Perm.refl _, fun H4 s4 => ?_⟩
    rw [lg0]
    refine ⟨_, rfl, D1, sixes, rfl, SqL.of (s4 _ _ h13), sixes_ok, fun H5 s5 => ?_⟩
    rw [wd6]
    have s35 := s4.trans s5
    refine ⟨_, rfl, fun x dx nx ndx ned => ?_⟩
    refine ⟨x, dx, a3, (upto 24).map V.int, rfl, (made_same nx ndx (Fra.refl _ _)).seq (SqL.of (s35 _ _ h3)), upd_same, fun l H6 f6 nl hl6 hx6 => ⟨rfl, ?_⟩⟩
    have s56 : Same H5 H6 := made_same nx ndx f6
    refine ⟨x, dx, _, rfl, hx6, orF_shows _, _, rfl, x, l, D1, sixes, upto 24, 5, rfl, ⟨⟨dx, hx6⟩, hl6⟩, SqL.of (s56 _ _ (s35 _ _ h13)), by decide, fun H7 s7 => ?_⟩
    rw [sh0]
    refine ⟨by show 3 ≤ sizeLine; decide, fun p8 n8 => to_new n8 fun H8 s8 h8 => ?_⟩
    refine iE_of ⟨by show 3 ≤ sizeLine; decide, fun p9 n9 => to_new n9 fun H9 s9 h9 => ?_⟩
    refine ⟨_, _, .lst (SqL.of (s9 _ _ h8)) (.cons (.int 5) (.cons (.int 5) (.cons (.bl true) .nil))), .lst (SqL.of h9) (.cons (.int 5) (.cons (.int 5) (.cons (.bl true) .nil))), by decide +kernel, by decide +kernel, _, rfl, ?_⟩
    rw [show (!PyData.eqv (.list [.int 5, .int 5, .bool true]) (.list [.int 5, .int 5, .bool true])) = false by decide +kernel]
    refine iteF ?_
    have s39 : Same H3 H9 := (s35.trans s56).trans ((s7.trans s8).trans s9)
    have h39 := s39 _ _ h3
    obtain ⟨xa1, xa2, xa3, xa4⟩ := xch_at pl hpl
    have u24 : ((upto 24).length : Int) = 24 := by decide
    refine ⟨_, rfl, _, rfl, _, _, rfl, rfl, a3, _, _, _, rfl, rfl, SqL.of h39, at_int (ls := upto 24) (s := (pl : Int) + 1) (by omega) (by omega), ?_⟩
    rw [show ((pl : Int) + 1).toNat = pl + 1 by omega, xa4]
    refine ⟨_, rfl, _, rfl, a3, _, _, _, rfl, rfl, SqL.of h39, at_int (ls := upto 24) (s := (pl : Int)) (by omega) (by omega), ?_⟩
    rw [show ((pl : Int)).toNat = pl by omega, xa3]
    refine ⟨by show 2 ≤ sizeLine; decide, fun t10 n10 => to_new n10 fun H10 s10 h10 => ?_⟩
    refine ⟨t10, _, rfl, SqT.of h10, rfl, _, _, rfl, ?_⟩
    refine ⟨_, rfl, _, rfl, a3, _, _, pl, rfl, rfl, s10 _ _ h39, ixN_of (s := (pl : Int)) (by omega) (by rw [List.length_map]; omega), ?_⟩
    refine to_put fun H11 f11 h11 => ?_
    refine ⟨_, _, rfl, _, rfl, _, rfl, _, _, rfl, rfl, a3, _, _, pl + 1, rfl, rfl, h11, ?_, ?_⟩
    · have := ixN_of (n := (((upto 24).map V.int).set pl (V.int ((pl : Int) + 1))).length) (s := (pl : Int) + 1) (by omega) (by rw [List.length_set, List.length_map]; omega)
      rw [this]; exact congrArg some (by omega)
    refine to_put fun H12 f12 h12 => ⟨rfl, ?_⟩
    have ex : (((upto 24).map V.int).set pl (V.int ((pl : Int) + 1))).set (pl + 1) (V.int pl) = (xch pl).map V.int := by
      unfold xch; rw [List.map_set, List.map_set]
    rw [ex] at h12
    have nA : ∀ a ∈ [a3], H2 a = none := fun a ha => by rw [List.mem_singleton.mp ha]; exact n3
    have s12 : Same H2 H12 := Fra.back (s3.trans (s39.trans s10)) (f11.trans f12) nA
    have xp := xch_perm pl hpl
    have R12 : Rows K H12 (bs.map V.ref) R6 := rows H12 fun i b e => s12 _ _ (hbs i b e).1
    have h1s : H12 D1 = some (.lst (sixes.map V.int)) := s12 _ _ (s2 _ _ h1)
    dsimp only
    refine rd_set0 ?_
    refine iE_of ?_
    refine ⟨_, rfl, _, rfl, D2, a3, _, R6, xch pl, rfl, SqL.of (s12 _ _ h2), R12, R6_ok, by decide, SqL.of h12, xp, fun K4 k4 => ?_⟩
    rw [lg1 pl hpl]
    refine ⟨_, rfl, fun x dx nx ndx ned => ?_⟩
    refine ⟨x, dx, a3, (xch pl).map V.int, rfl, (made_same nx ndx (Fra.refl _ _)).seq (SqL.of (k4 _ _ h12)), upd_same, fun l K6 f6 nl hl6 hx6 => ⟨rfl, ?_⟩⟩
    have k46 : Same K4 K6 := made_same nx ndx f6
    refine ⟨x, dx, _, rfl, hx6, orF_shows _, _, rfl, x, l, D1, sixes, xch pl, 5, rfl, ⟨⟨dx, hx6⟩, hl6⟩, SqL.of (k46 _ _ (k4 _ _ h1s)), by decide, fun K7 k7 => ?_⟩
    rw [(sh1 pl hpl).1]
    have k17 := (k4.trans k46).trans k7
    refine ⟨_, rfl, fun y dy ny ndy ney => ?_⟩
    refine ⟨y, dy, a3, (xch pl).map V.int, rfl, (made_same ny ndy (Fra.refl _ _)).seq (SqL.of (k17 _ _ h12)), upd_same, fun l8 K8 f8 nl8 hl8 hy8 => ⟨rfl, ?_⟩⟩
    have k78 : Same K7 K8 := made_same ny ndy f8
    refine ⟨y, dy, _, rfl, hy8, orF_shows _, _, rfl, y, l8, D1, sixes, xch pl, 4, rfl, ⟨⟨dy, hy8⟩, hl8⟩, SqL.of (k78 _ _ (k17 _ _ h1s)), by decide, fun K9 k9 => ?_⟩
    rw [(sh1 pl hpl).2]
    refine ⟨by show 3 ≤ sizeLine; decide, fun p10 m10 => to_new m10 fun K10 k10 hp10 => ?_⟩
    have k110 := ((k17.trans k78).trans k9).trans k10
    dsimp only
    refine seq_if ?_
    refine ⟨_, rfl, ?_⟩
    refine iE_of ⟨by show 3 ≤ sizeLine; decide, fun p11 m11 => to_new m11 fun K11 k11 hp11 => ?_⟩
    refine ⟨_, _, .lst (SqL.of (k11 _ _ hp10)) (.cons (.int 4) (.cons (.bl false) (.cons (.bl true) .nil))), .lst (SqL.of hp11) (.cons (.int 4) (.cons (.bl false) (.cons (.bl true) .nil))), by decide +kernel, by decide +kernel, _, rfl, ?_⟩
    rw [show (!PyData.eqv (.list [.int 4, .bool false, .bool true]) (.list [.int 4, .bool false, .bool true])) = false by decide +kernel]
    refine iteF ?_
    have sK : Same H12 K11 := k110.trans k11
    have hK := sK _ _ h12
    have x24 : ((xch pl).length : Int) = 24 := by unfold xch; rw [List.length_set, List.length_set]; exact u24
    refine ⟨_, rfl, _, rfl, _, _, rfl, rfl, a3, _, _, _, rfl, rfl, SqL.of hK, at_int (ls := xch pl) (s := (pl : Int) + 1) (by omega) (by omega), ?_⟩
    rw [show ((pl : Int) + 1).toNat = pl + 1 by omega, xa2]
    refine ⟨_, rfl, _, rfl, a3, _, _, _, rfl, rfl, SqL.of hK, at_int (ls := xch pl) (s := (pl : Int)) (by omega) (by omega), ?_⟩
    rw [show ((pl : Int)).toNat = pl by omega, xa1]
    refine ⟨by show 2 ≤ sizeLine; decide, fun t12 n12 => to_new n12 fun K12 k12 ht12 => ?_⟩
    refine ⟨t12, _, rfl, SqT.of ht12, rfl, _, _, rfl, ?_⟩
    refine ⟨_, rfl, _, rfl, a3, _, _, pl, rfl, rfl, k12 _ _ hK, ixN_of (s := (pl : Int)) (by omega) (by rw [List.length_map]; omega), ?_⟩
    refine to_put fun K13 f13 h13 => ?_
    refine ⟨_, _, rfl, _, rfl, _, rfl, _, _, rfl, rfl, a3, _, _, pl + 1, rfl, rfl, h13, ?_, ?_⟩
    · have := ixN_of (n := (((xch pl).map V.int).set pl (V.int pl)).length) (s := (pl : Int) + 1) (by omega) (by rw [List.length_set, List.length_map]; omega)
      rw [this]; exact congrArg some (by omega)
    refine to_put fun K14 f14 h14 => ⟨rfl, ?_⟩
    have eb : (((xch pl).map V.int).set pl (V.int pl)).set (pl + 1) (V.int ((pl : Int) + 1)) = (upto 24).map V.int := by
      rw [← xch_back pl hpl, List.map_set, List.map_set]
    rw [eb] at h14
    have s14 : Same H2 K14 := Fra.back (s12.trans (sK.trans k12)) (f13.trans f14) nA
    have hD2 := s14 _ _ h2
    have hb0 : pl < bs.length := by omega
    have hb1 : pl + 1 < bs.length := by omega
    obtain ⟨b0, eb0⟩ : ∃ b, bs[pl]? = some b := ⟨_, List.getElem?_eq_getElem hb0⟩
    obtain ⟨b1, eb1⟩ : ∃ b, bs[pl + 1]? = some b := ⟨_, List.getElem?_eq_getElem hb1⟩
    have hB0 := s14 _ _ (hbs pl b0 eb0).1
    have hB1 := s14 _ _ (hbs (pl + 1) b1 eb1).1
    have at0 : atI (bs.map V.ref) (pl : Int) = some (.ref b0) := atI_nat (by rw [List.getElem?_map, eb0]; rfl)
    have at1 : atI (bs.map V.ref) ((pl : Int) + 1) = some (.ref b1) := by
      have := atI_nat (xs := bs.map V.ref) (j := pl + 1) (v := .ref b1) (by rw [List.getElem?_map, eb1]; rfl)
      rwa [show (((pl + 1 : Nat)) : Int) = (pl : Int) + 1 by omega] at this
    refine ⟨_, rfl, _, rfl, D2, _, _, _, rfl, rfl, SqL.of hD2, at0, b0, _, _, _, rfl, rfl, SqL.of hB0, atI_nat (j := 0) rfl, ?_⟩
    refine ⟨_, rfl, _, rfl, _, _, rfl, rfl, D2, _, _, _, rfl, rfl, SqL.of hD2, at1, b1, _, _, 0, rfl, rfl, hB1, rfl, ?_⟩
    refine to_put fun K15 f15 h15 => ?_
    have nb : ∀ (i : Nat) b, bs[i]? = some b → i ≠ pl + 1 → b ≠ b1 := fun i b e hi z => by
      rw [z] at e
      have h1 := (List.getElem?_eq_some_iff.mp e)
      have h2 := (List.getElem?_eq_some_iff.mp eb1)
      rcases Nat.lt_trichotomy i (pl + 1) with q | q | q
      · exact List.pairwise_iff_getElem.mp nd i (pl + 1) h1.1 h2.1 q (h1.2.trans h2.2.symm)
      · exact hi q
      · exact List.pairwise_iff_getElem.mp nd (pl + 1) i h2.1 h1.1 q (h2.2.trans h1.2.symm)
    have ne2 : D2 ≠ b1 := fun z => (hbs (pl + 1) b1 eb1).2.2 z.symm
    have ne3 : a3 ≠ b1 := fun z => by rw [z, (hbs (pl + 1) b1 eb1).1] at n3; cases n3
    have hR15 : Rows K K15 (bs.map V.ref) (R6.set (pl + 1) [sixes.getD pl 0]) := by
      refine ⟨by rw [List.length_map, List.length_set, lb]; rfl, fun i v e => ?_⟩
      rw [List.getElem?_map] at e
      cases ei : bs[i]? with
      | none => rw [ei] at e; cases e
      | some b =>
        rw [ei] at e
        by_cases hi : i = pl + 1
        · subst hi
          rw [eb1] at ei
          obtain rfl := Option.some.inj ei
          refine ⟨b1, (Option.some.inj e).symm, ?_⟩
          have er : (R6.set (pl + 1) [sixes.getD pl 0]).getD (pl + 1) [] = [sixes.getD pl 0] := by
            rw [List.getD_eq_getElem?_getD, List.getElem?_set_self (show pl + 1 < 24 by omega)]; rfl
          rw [er]
          exact SqL.of h15
        · have er : (R6.set (pl + 1) [sixes.getD pl 0]).getD i [] = R6.getD i [] := by
            simp only [List.getD_eq_getElem?_getD]
            rw [List.getElem?_set_ne (fun z => hi z.symm)]
          rw [er]
          have z := (rows K14 fun i b e => s14 _ _ (hbs i b e).1).2 i v (by rw [List.getElem?_map, ei]; exact e)
          obtain ⟨c, ec, _⟩ := z
          have hbc : b = c := by
            have := (Option.some.inj e).trans ec
            injection this
          subst hbc
          refine ⟨b, ec, ?_⟩
          have er2 : R6.getD i [] = [sixes.getD i 0] := by
            have hi24 : i < 24 := by have := (List.getElem?_eq_some_iff.mp ei).1; omega
            unfold R6
            rw [List.getD_eq_getElem?_getD, List.getElem?_map, List.getD_eq_getElem?_getD, List.getElem?_eq_getElem (show i < sixes.length from hi24)]; rfl
          rw [er2]
          exact SqL.of (f15.one (nb i b ei hi) (s14 _ _ (hbs i b ei).1))
    have gr15 : GrOk (R6.set (pl + 1) [sixes.getD pl 0]) := fun r hr => by
      rcases List.mem_or_eq_of_mem_set hr with z | z
      · exact R6_ok r z
      · rw [z]
        refine R6_ok _ ?_
        unfold R6
        refine List.mem_map.mpr ⟨sixes.getD pl 0, ?_, rfl⟩
        rw [List.getD_eq_getElem?_getD, List.getElem?_eq_getElem (show pl < sixes.length by show pl < 24; omega)]
        exact List.getElem_mem _
    refine ⟨_, rfl, _, rfl, D2, a3, _, R6.set (pl + 1) [sixes.getD pl 0], upto 24, rfl, SqL.of (f15.one ne2 hD2), hR15, gr15, by rw [List.length_set]; decide, SqL.of (f15.one ne3 h14), by rw [List.length_set]; exact List.Perm.refl _, fun K16 k16 => ?_⟩
    rw [lg2 pl hpl]
    refine ⟨rfl, _, rfl, iteF ?_⟩
    have s15 : Same H1 K16 := (Fra.back (s2.trans s14) f15 (fun a ha => by rw [List.mem_singleton.mp ha]; exact (hbs (pl + 1) b1 eb1).2.1)).trans k16
    refine iE_of ⟨by show 1 ≤ sizeLine; decide, fun c0 m0 => to_new m0 fun L0 l0 hc0 => ?_⟩
    refine ⟨by show 1 ≤ sizeLine; decide, fun c1 m1 => to_new m1 fun L1 l1 hc1 => ?_⟩
    refine ⟨by show 1 ≤ sizeLine; decide, fun c2 m2 => to_new m2 fun L2' l2 hc2 => ?_⟩
    refine ⟨by show 1 ≤ sizeLine; decide, fun c3 m3 => to_new m3 fun L3 l3 hc3 => ?_⟩
    refine ⟨by show 1 ≤ sizeLine; decide, fun c4 m4 => to_new m4 fun L4 l4 hc4 => ?_⟩
    refine ⟨by show 5 ≤ sizeLine; decide, fun cl ml => to_new ml fun L5 l5 hcl => ?_⟩
    have g0 : L5 c0 = some (.lst [V.int 0]) := l5 _ _ (l4 _ _ (l3 _ _ (l2 _ _ (l1 _ _ hc0))))
    have g1 : L5 c1 = some (.lst [V.int 1]) := l5 _ _ (l4 _ _ (l3 _ _ (l2 _ _ hc1)))
    have g2 : L5 c2 = some (.lst [V.int 0]) := l5 _ _ (l4 _ _ (l3 _ _ hc2))
    have g3 : L5 c3 = some (.lst [V.int 2]) := l5 _ _ (l4 _ _ hc3)
    have g4 : L5 c4 = some (.lst [V.int 1]) := l5 _ _ hc4
    have n02 : c0 ≠ c2 := ne_of_none (l1 _ _ hc0) m2
    have n12 : c1 ≠ c2 := ne_of_none hc1 m2
    have n32 : c3 ≠ c2 := (ne_of_none hc2 m3).symm
    have n42 : c4 ≠ c2 := (ne_of_none (l3 _ _ hc2) m4).symm
    have nl2 : cl ≠ c2 := (ne_of_none (l4 _ _ (l3 _ _ hc2)) ml).symm
    have rowsF : ∀ (X : Hp) (z : Int), X c0 = some (.lst [V.int 0]) → X c1 = some (.lst [V.int 1]) → X c2 = some (.lst [V.int z]) → X c3 = some (.lst [V.int 2]) → X c4 = some (.lst [V.int 1]) → Rows K X [.ref c0, .ref c1, .ref c2, .ref c3, .ref c4] [[0], [1], [z], [2], [1]] := fun X z q0 q1 q2 q3 q4 => by
      refine ⟨rfl, fun i v e => ?_⟩
      match i, e with
      | 0, e => exact ⟨c0, (Option.some.inj e).symm, SqL.of q0⟩
      | 1, e => exact ⟨c1, (Option.some.inj e).symm, SqL.of q1⟩
      | 2, e => exact ⟨c2, (Option.some.inj e).symm, SqL.of q2⟩
      | 3, e => exact ⟨c3, (Option.some.inj e).symm, SqL.of q3⟩
      | 4, e => exact ⟨c4, (Option.some.inj e).symm, SqL.of q4⟩
    have grA : GrOk fewA := by unfold GrOk; decide +kernel
    have gr3 : GrOk [[0], [1], [3], [2], [1]] := by unfold GrOk; decide +kernel
    refine ⟨_, rfl, cl, _, fewA, rfl, SqL.of hcl, rowsF L5 0 g0 g1 g2 g3 g4, grA, by decide, fun t6 b6 L6 nt6 nb6 l6 ht6 hb6 => ?_⟩
    rw [few2.1] at ht6
    have hcl6 := l6 _ _ hcl
    refine ⟨_, rfl, cl, _, _, _, rfl, rfl, SqL.of hcl6, atI_nat (j := 2) rfl, c2, _, _, 0, rfl, rfl, l6 _ _ g2, rfl, ?_⟩
    refine to_put fun L7 f7 h7 => ?_
    have ht7 := f7.one (fun z => by rw [z, g2] at nt6; cases nt6) ht6
    have hb7 := f7.one (fun z => by rw [z, g2] at nb6; cases nb6) hb6
    have hcl7 := f7.one nl2 hcl6
    refine ⟨_, rfl, t6, _, _, _, rfl, rfl, SqT.of ht7, atI_nat (j := 0) rfl, rfl, _, rfl, iteT ?_⟩
    refine ⟨_, rfl, cl, _, [[0], [1], [3], [2], [1]], rfl, SqL.of hcl7, rowsF L7 3 (f7.one n02 (l6 _ _ g0)) (f7.one n12 (l6 _ _ g1)) h7 (f7.one n32 (l6 _ _ g3)) (f7.one n42 (l6 _ _ g4)), gr3, by decide, fun t8 b8 L8 nt8 nb8 l8 ht8 hb8 => ?_⟩
    rw [few2.2] at ht8
    refine ⟨t8, _, _, _, rfl, rfl, SqT.of ht8, atI_nat (j := 0) rfl, rfl, _, rfl, iteT ?_⟩
    refine rd_dat (d := rowsD fewA) (gv_lst (ga_cons (gv_lst (ga_cons (gv_int (i := 0)) ga_nil)) (ga_cons (gv_lst (ga_cons (gv_int (i := 1)) ga_nil)) (ga_cons (gv_lst (ga_cons (gv_int (i := 0)) ga_nil)) (ga_cons (gv_lst (ga_cons (gv_int (i := 2)) ga_nil)) (ga_cons (gv_lst (ga_cons (gv_int (i := 1)) ga_nil)) ga_nil)))))) fun v9 L9 l9 d9 => ?_
    obtain ⟨a9, cs9, rfl, h9', hR9⟩ := dx_rows (K := K) d9
    refine ⟨a9, cs9, fewA, rfl, SqL.of h9', hR9, grA, by decide, fun t10 b10 L10 nt10 nb10 l10 ht10' hb10 => ?_⟩
    rw [few2.1] at ht10'
    have ht7' := l10 _ _ (l9 _ _ (l8 _ _ ht7))
    have hb7' := l10 _ _ (l9 _ _ (l8 _ _ hb7))
    refine ⟨_, rfl, _, _, .tup (SqT.of ht10') (.cons (.int 2) (.cons (dp_ints (SqL.of hb10)) .nil)), .tup (SqT.of ht7') (.cons (.int 2) (.cons (dp_ints (SqL.of hb7')) .nil)), ?_, ?_, ?_⟩
    · exact few_shp
    · exact few_shp
    rw [few_eqv]
    have sF : Same K16 L7 := Fra.back ((l0.trans (l1.trans (l2.trans (l3.trans (l4.trans l5))))).trans l6) f7 (fun a ha => by rw [List.mem_singleton.mp ha]; exact l0.free (l1.free m2))
    exact q _ (s1.trans (s15.trans (sF.trans (l8.trans (l9.trans l10)))))
end
end Song

/-! ### H3: _law_tales_right of k13 -/
namespace Song
open PySem L2
def p20 : Int := 10 ^ (20 : Int).toNat
def tale0 : List Part := [.wish [0] 0 1, .wish [1] 1 1, .sing (some 0)]
def lastW : List Part := [.wish [] 2 1, .wish [0, 1, 2, 3] 2 2, .wish [-1] 2 1, .wish [4] 2 1, .wish [1, 1] 2 2, .wish [2, 1] 2 2, .wish [p20] 2 1, .out (-1), .out 0, .sing (some (-1)), .sing none, .wish [2] 2 2, .wish [2] 3 1, .out p20]
theorem last_fw : ∀ w ∈ lastW, firstWrong 4 (tale0 ++ [w]) = 3 ∧ firstWrong 4 (tale0 ++ [w] ++ [.sing none]) = 3 := by decide +kernel
theorem last_few : ∀ w ∈ lastW, ∀ ss n r, w = .wish ss n r → ss.length ≤ 1000 := fun w hw ss n r e => by
  subst e
  revert hw
  unfold lastW
  simp only [List.mem_cons, Part.wish.injEq, reduceCtorEq, List.not_mem_nil, or_false, false_or]
  rintro (⟨rfl, _⟩ | ⟨rfl, _⟩ | ⟨rfl, _⟩ | ⟨rfl, _⟩ | ⟨rfl, _⟩ | ⟨rfl, _⟩ | ⟨rfl, _⟩ | ⟨rfl, _⟩ | ⟨rfl, _⟩) <;> decide
theorem good_fw : firstWrong 4 (tale0 ++ [.sing (some 1)]) = -1 := by decide +kernel
theorem bent_fw : firstWrong 4 [.wish [0] 0 1, .wish [0] 1 1, .sing (some 0)] = 1 := by decide +kernel
theorem tale0_fw : firstWrong 4 tale0 = -1 := by decide +kernel
section
variable {P : Program} {w : World} {K : PySem.W.Frag} {mg : Str → Option Value} {base : Heap}
theorem taleOk_of {t : List Part} (h : t.length ≤ 300) (k : ∀ w ∈ t, ∀ ss n r, w = .wish ss n r → ss.length ≤ 1000) : TaleOk t := ⟨h, fun ss n r hm => k _ hm ss n r rfl⟩
theorem tale0_few : ∀ w ∈ tale0, ∀ ss n r, w = .wish ss n r → ss.length ≤ 1000 := fun w hw ss n r e => by
  subst e
  revert hw
  unfold tale0
  simp only [List.mem_cons, Part.wish.injEq, reduceCtorEq, List.not_mem_nil, or_false]
  rintro (⟨rfl, _⟩ | ⟨rfl, _⟩) <;> decide
theorem sc__law_tales_right : FnScope ["_law_tale", "_law_last", "_law_word", "_law_found", "_law_whole", "_law_good"] [] (defScope s__law_tales_right) := ⟨rfl, rfl, rfl, by decide +kernel, rfl, by decide +kernel, by decide +kernel⟩
def sp_true : Sp := fun vs H Q _ => vs = [] ∧ ∀ H', Same H H' → Q (.bl true) H'
theorem fn__law_tales_right (T : Tx K mg) : Fn P w K mg base "_law_tales_right" 7 sp_true := by
  obtain ⟨fd, F⟩ := T.d__law_tales_right
  refine ⟨_, fd, _, F.ok (CX := CX0) sc__law_tales_right (fun vs H Q E h => ?_) (fun cdv A outer s H vs Q E hr h => ?_), T.g__law_tales_right, F.kp, F.bindsN fun _ _ _ _ _ _ us hl => match us, hl with | [], _ => rfl⟩
  · obtain ⟨rfl, _⟩ := h; rfl
  · obtain ⟨rfl, q⟩ := h
    refine ⟨_, PSs.nox (pss_cons (ps_set (i := 0) sc__law_tales_right.nd rfl (by first | exact Or.inl rfl | exact Or.inr rfl) (pe_iE (pe_lst (pa_cons (pe_tup (pa_cons pe_str (pa_cons (pe_lst (pa_cons pe_int pa_nil)) (pa_cons pe_int (pa_cons pe_int pa_nil))))) (pa_cons (pe_tup (pa_cons pe_str (pa_cons (pe_lst (pa_cons pe_int pa_nil)) (pa_cons pe_int (pa_cons pe_int pa_nil))))) (pa_cons (pe_tup (pa_cons pe_str (pa_cons pe_int pa_nil))) pa_nil))))))
      (pss_cons (ps_set (i := 1) sc__law_tales_right.nd rfl (by first | exact Or.inl rfl | exact Or.inr rfl) (pe_iE (pe_lst (pa_cons (pe_tup (pa_cons pe_str (pa_cons (pe_lst pa_nil) (pa_cons pe_int (pa_cons pe_int pa_nil))))) (pa_cons (pe_tup (pa_cons pe_str (pa_cons (pe_lst (pa_cons pe_int (pa_cons pe_int (pa_cons pe_int (pa_cons pe_int pa_nil))))) (pa_cons pe_int (pa_cons pe_int pa_nil))))) (pa_cons (pe_tup (pa_cons pe_str (pa_cons (pe_lst (pa_cons (pe_un un_neg pe_int) pa_nil)) (pa_cons pe_int (pa_cons pe_int pa_nil))))) (pa_cons (pe_tup (pa_cons pe_str (pa_cons (pe_lst (pa_cons pe_int pa_nil)) (pa_cons pe_int (pa_cons pe_int pa_nil))))) pa_nil)))))))
      (pss_cons (ps_set (i := 1) sc__law_tales_right.nd rfl (by first | exact Or.inl rfl | exact Or.inr rfl) (pe_op op_cat (pv 1) (pe_iE (pe_lst (pa_cons (pe_tup (pa_cons pe_str (pa_cons (pe_lst (pa_cons pe_int (pa_cons pe_int pa_nil))) (pa_cons pe_int (pa_cons pe_int pa_nil))))) (pa_cons (pe_tup (pa_cons pe_str (pa_cons (pe_lst (pa_cons pe_int (pa_cons pe_int pa_nil))) (pa_cons pe_int (pa_cons pe_int pa_nil))))) (pa_cons (pe_tup (pa_cons pe_str (pa_cons (pe_lst (pa_cons (pe_op op_pow pe_int pe_int) pa_nil)) (pa_cons pe_int (pa_cons pe_int pa_nil))))) pa_nil)))))))
      (pss_cons (ps_set (i := 1) sc__law_tales_right.nd rfl (by first | exact Or.inl rfl | exact Or.inr rfl) (pe_op op_cat (pv 1) (pe_iE (pe_lst (pa_cons (pe_tup (pa_cons pe_str (pa_cons (pe_un un_neg pe_int) pa_nil))) (pa_cons (pe_tup (pa_cons pe_str (pa_cons pe_int pa_nil))) pa_nil))))))
      (pss_cons (ps_set (i := 1) sc__law_tales_right.nd rfl (by first | exact Or.inl rfl | exact Or.inr rfl) (pe_op op_cat (pv 1) (pe_iE (pe_lst (pa_cons (pe_tup (pa_cons pe_str (pa_cons (pe_un un_neg pe_int) pa_nil))) (pa_cons (pe_tup (pa_cons pe_str (pa_cons pe_non pa_nil))) (pa_cons (pe_tup (pa_cons pe_str (pa_cons (pe_lst (pa_cons pe_int pa_nil)) (pa_cons pe_int (pa_cons pe_int pa_nil))))) (pa_cons (pe_tup (pa_cons pe_str (pa_cons (pe_lst (pa_cons pe_int pa_nil)) (pa_cons pe_int (pa_cons pe_int pa_nil))))) (pa_cons (pe_tup (pa_cons pe_str (pa_cons (pe_op op_pow pe_int pe_int) pa_nil))) pa_nil)))))))))
      (pss_cons (ps_for PassesOwn.never rfl (show PI _ _ _ (iList K _) from pi_list (pv 1)) (pg_name (i := 2) sc__law_tales_right.nd rfl (by first | exact Or.inl rfl | exact Or.inr rfl))
      (pss_cons (ps_par (i := 3) (j := 4) (by rfl) sc__law_tales_right.nd rfl rfl (by decide) rfl rfl (pa_cons (pe_fn (fn_judged T) (hr.mono (by first | decide | omega)) (by rfl) (pa_cons pe_int (pa_cons (pe_op op_cat (pv 0) (pe_iE (pe_lst (pa_cons (pv 2) pa_nil)))) pa_nil))) (pa_cons (pe_op op_cat (pv 0) (pe_iE (pe_lst (pa_cons (pv 2) (pa_cons (pe_tup (pa_cons pe_str (pa_cons pe_non pa_nil))) pa_nil))))) pa_nil)) (by rfl))
      (pss_cons (ps_if (PW.pt (pw_or (pt_not (pt_val (pe_callB (show CallR _ _ (rIsi K) from call_isi) (by rfl) T.isinstance (by decide +kernel) (pa_cons (pv 3) (pa_cons (pe_gc T.g_Wrong (by rfl)) pa_nil))))) (pw_or (pt_cmpR op_ne (show PE _ _ (tFld K _ _) from pe_fld (pv 3) rfl) pe_int (nomark _)) (pw_or1 (pt_cmpR op_notBl (pe_me (me_Wrong_shows T) (hr.mono (by first | decide | omega)) (pv 3) (pa_cons pe_int (pa_cons (pv 4) pa_nil))) pe_bl (nomark _)))))) (pss_one (ps_ret pe_bl)) pss_nil)
      (pss_one (ps_if (PW.pt (pw_or (pt_cmpR op_notBl (pe_me (me_Right_shows T) (hr.mono (by first | decide | omega)) (pe_mkO T.mkb_Right (by rfl) T.g_Right) (pa_cons pe_int (pa_cons (pe_op op_cat (pv 0) (pe_iE (pe_lst (pa_cons (pv 2) pa_nil)))) pa_nil))) pe_bl (nomark _)) (pw_or1 (pt_cmpR op_notBl (pe_me (me_Wrong_shows T) (hr.mono (by first | decide | omega)) (pe_mk (mk_Wrong T) (hr.mono (by first | decide | omega)) (by rfl) (pa_cons pe_int pa_nil)) (pa_cons pe_int (pa_cons (pv 4) pa_nil))) pe_bl (nomark _))))) (pss_one (ps_ret pe_bl)) pss_nil)))))
      (pss_cons (ps_set (i := 5) sc__law_tales_right.nd rfl (by first | exact Or.inl rfl | exact Or.inr rfl) (pe_op op_cat (pv 0) (pe_iE (pe_lst (pa_cons (pe_tup (pa_cons pe_str (pa_cons pe_int pa_nil))) pa_nil)))))
      (pss_cons (ps_if (PW.pt (pw_or (pt_not (pt_val (pe_callB (show CallR _ _ (rIsi K) from call_isi) (by rfl) T.isinstance (by decide +kernel) (pa_cons (pe_fn (fn_judged T) (hr.mono (by first | decide | omega)) (by rfl) (pa_cons pe_int (pa_cons (pv 5) pa_nil))) (pa_cons (pe_gc T.g_Right (by rfl)) pa_nil))))) (pw_or1 (pt_cmpR op_notBl (pe_me (me_Wrong_shows T) (hr.mono (by first | decide | omega)) (pe_mk (mk_Wrong T) (hr.mono (by first | decide | omega)) (by rfl) (pa_cons pe_int pa_nil)) (pa_cons pe_int (pa_cons (pv 5) pa_nil))) pe_bl (nomark _))))) (pss_one (ps_ret pe_bl)) pss_nil)
      (pss_cons (ps_asg pe_int (pg_sub (pe_ix (show IxR _ (rIxT K) from ix_tup) (pe_ix (show IxR _ (rIxL K) from ix_list) (pv 0) pe_int (fun _ _ => rfl)) pe_int (fun _ _ => rfl)) pe_int set_list))
      (pss_cons (ps_set (i := 3) sc__law_tales_right.nd rfl (by first | exact Or.inl rfl | exact Or.inr rfl) (pe_fn (fn_judged T) (hr.mono (by first | decide | omega)) (by rfl) (pa_cons pe_int (pa_cons (pv 0) pa_nil))))
      (pss_cons (ps_if (PW.pt (pw_or (pt_cmpR op_notBl (pe_me (me_Right_shows T) (hr.mono (by first | decide | omega)) (pe_mkO T.mkb_Right (by rfl) T.g_Right) (pa_cons pe_int (pa_cons (pv 0) pa_nil))) pe_bl (nomark _)) (pw_or (pt_not (pt_val (pe_callB (show CallR _ _ (rIsi K) from call_isi) (by rfl) T.isinstance (by decide +kernel) (pa_cons (pv 3) (pa_cons (pe_gc T.g_Wrong (by rfl)) pa_nil))))) (pw_or1 (pt_cmpR op_ne (show PE _ _ (tFld K _ _) from pe_fld (pv 3) rfl) pe_int (nomark _)))))) (pss_one (ps_ret pe_bl)) pss_nil)
      (pss_cons (ps_asg pe_int (pg_sub (pe_ix (show IxR _ (rIxT K) from ix_tup) (pe_ix (show IxR _ (rIxL K) from ix_list) (pv 0) pe_int (fun _ _ => rfl)) pe_int (fun _ _ => rfl)) pe_int set_list))
      (pss_one (ps_ret (pe_and (pe_cmpR op_isBl (pe_me (me_Wrong_shows T) (hr.mono (by first | decide | omega)) (pv 3) (pa_cons pe_int (pa_cons (pv 0) pa_nil))) pe_bl (nomark _)) (pe_one (pe_cmpR op_isBl (pe_me (me_Right_shows T) (hr.mono (by first | decide | omega)) (pe_mkO T.mkb_Right (by rfl) T.g_Right) (pa_cons pe_int (pa_cons (pv 0) pa_nil))) pe_bl (nomark _)))))))))))))))))), ?_⟩
    refine rd_set0 (iE_of ?_)
    refine ⟨by show 1 ≤ sizeLine; decide, fun b0 m0 => to_new m0 fun G1 g1 hb0 => ⟨by show 4 ≤ sizeLine; decide, fun t0 k0 => to_new k0 fun G2 g2 ht0 => ?_⟩⟩
    refine ⟨by show 1 ≤ sizeLine; decide, fun b1 m1 => to_new m1 fun G3 g3 hb1 => ⟨by show 4 ≤ sizeLine; decide, fun t1 k1 => to_new k1 fun G4 g4 ht1 => ?_⟩⟩
    refine ⟨by show 2 ≤ sizeLine; decide, fun t2 k2 => to_new k2 fun G5 g5 ht2 => ⟨by show 3 ≤ sizeLine; decide, fun a0 n0 => to_new n0 fun G6 g6 ha0 => ?_⟩⟩
    have c0 : G6 b0 = some (.lst [V.int 0]) := g6 _ _ (g5 _ _ (g4 _ _ (g3 _ _ (g2 _ _ hb0))))
    have d0 : G6 t0 = some (.tup [.str "wish", .ref b0, .int 0, .int 1]) := g6 _ _ (g5 _ _ (g4 _ _ (g3 _ _ ht0)))
    have c1 : G6 b1 = some (.lst [V.int 1]) := g6 _ _ (g5 _ _ (g4 _ _ hb1))
    have d1 : G6 t1 = some (.tup [.str "wish", .ref b1, .int 1, .int 1]) := g6 _ _ (g5 _ _ ht1)
    have d2 : G6 t2 = some (.tup [.str "sing", .int 0]) := g6 _ _ ht2
    have s06 : Same H G6 := g1.trans (g2.trans (g3.trans (g4.trans (g5.trans g6))))
    have parts : ∀ (X : Hp) (z : Int), X b0 = some (.lst [V.int 0]) → X t0 = some (.tup [.str "wish", .ref b0, .int 0, .int 1]) → X b1 = some (.lst [V.int z]) → X t1 = some (.tup [.str "wish", .ref b1, .int 1, .int 1]) → X t2 = some (.tup [.str "sing", .int 0]) →
        Parts X [.ref t0, .ref t1, .ref t2] [.wish [0] 0 1, .wish [z] 1 1, .sing (some 0)] := fun X z q0 q1 q2 q3 q4 => ⟨⟨b0, q1, q0⟩, ⟨b1, q3, q2⟩, q4, trivial⟩
    dsimp only
    have none0 : ∀ (X : Hp), ∀ a ∈ ([] : List Addr), ∃ o, X a = some o := fun X a ha => by cases ha
    refine rd_setD (gv_lst (ga_cons (gv_tup (ga_cons (gv_str (s := "wish")) (ga_cons (gv_lst ga_nil) (ga_cons (gv_int (i := 2)) (ga_cons (gv_int (i := 1)) ga_nil))))) (ga_cons (gv_tup (ga_cons (gv_str (s := "wish")) (ga_cons (gv_lst (ga_cons (gv_int (i := 0)) (ga_cons (gv_int (i := 1)) (ga_cons (gv_int (i := 2)) (ga_cons (gv_int (i := 3)) ga_nil))))) (ga_cons (gv_int (i := 2)) (ga_cons (gv_int (i := 2)) ga_nil))))) (ga_cons (gv_tup (ga_cons (gv_str (s := "wish")) (ga_cons (gv_lst (ga_cons (gv_num (n := -1) (fun H Q h => ⟨_, rfl, h⟩)) ga_nil)) (ga_cons (gv_int (i := 2)) (ga_cons (gv_int (i := 1)) ga_nil))))) (ga_cons (gv_tup (ga_cons (gv_str (s := "wish")) (ga_cons (gv_lst (ga_cons (gv_int (i := 4)) ga_nil)) (ga_cons (gv_int (i := 2)) (ga_cons (gv_int (i := 1)) ga_nil))))) ga_nil))))) fun v7 G7 g7 x7 => ?_
    obtain ⟨a7, vs7, rfl, h7, x7⟩ := dx_lst x7
    refine rd_catD rfl h7 x7 (gv_lst (ga_cons (gv_tup (ga_cons (gv_str (s := "wish")) (ga_cons (gv_lst (ga_cons (gv_int (i := 1)) (ga_cons (gv_int (i := 1)) ga_nil))) (ga_cons (gv_int (i := 2)) (ga_cons (gv_int (i := 2)) ga_nil))))) (ga_cons (gv_tup (ga_cons (gv_str (s := "wish")) (ga_cons (gv_lst (ga_cons (gv_int (i := 2)) (ga_cons (gv_int (i := 1)) ga_nil))) (ga_cons (gv_int (i := 2)) (ga_cons (gv_int (i := 2)) ga_nil))))) (ga_cons (gv_tup (ga_cons (gv_str (s := "wish")) (ga_cons (gv_lst (ga_cons (gv_num (fun H Q h => ⟨_, _, rfl, rfl, ⟨by decide, by decide, by decide⟩, h⟩)) ga_nil)) (ga_cons (gv_int (i := 2)) (ga_cons (gv_int (i := 1)) ga_nil))))) ga_nil)))) (by decide) fun a8 vs8 G8 n8 g8 h8 x8 => ?_
    refine rd_catD rfl h8 (dxAll_mono (off_le _ _) x8) (gv_lst (ga_cons (gv_tup (ga_cons (gv_str (s := "out")) (ga_cons (gv_num (n := -1) (fun H Q h => ⟨_, rfl, h⟩)) ga_nil))) (ga_cons (gv_tup (ga_cons (gv_str (s := "out")) (ga_cons (gv_int (i := 0)) ga_nil))) ga_nil))) (by decide) fun a9 vs9 G9 n9 g9 h9 x9 => ?_
    refine rd_catD rfl h9 (dxAll_mono (off_le _ _) x9) (gv_lst (ga_cons (gv_tup (ga_cons (gv_str (s := "sing")) (ga_cons (gv_num (n := -1) (fun H Q h => ⟨_, rfl, h⟩)) ga_nil))) (ga_cons (gv_tup (ga_cons (gv_str (s := "sing")) (ga_cons gv_non ga_nil))) (ga_cons (gv_tup (ga_cons (gv_str (s := "wish")) (ga_cons (gv_lst (ga_cons (gv_int (i := 2)) ga_nil)) (ga_cons (gv_int (i := 2)) (ga_cons (gv_int (i := 2)) ga_nil))))) (ga_cons (gv_tup (ga_cons (gv_str (s := "wish")) (ga_cons (gv_lst (ga_cons (gv_int (i := 2)) ga_nil)) (ga_cons (gv_int (i := 3)) (ga_cons (gv_int (i := 1)) ga_nil))))) (ga_cons (gv_tup (ga_cons (gv_str (s := "out")) (ga_cons (gv_num (fun H Q h => ⟨_, _, rfl, rfl, ⟨by decide, by decide, by decide⟩, h⟩)) ga_nil))) ga_nil)))))) (by decide) fun a10 vs10 G10 n10 g10 h10 x10 => ?_
    have x10 : DxAll G10 vs10 (lastW.map Part.toD) := dxAll_mono (off_le _ _) x10
    have sT : Same G6 G10 := g7.trans (g8.trans (g9.trans g10))
    have wOk : ∀ w ∈ lastW, TaleOk (tale0 ++ [w]) ∧ TaleOk (tale0 ++ [w] ++ [.sing none]) := fun w hw => by
      refine ⟨taleOk_of (by rw [List.length_append]; show 3 + 1 ≤ 300; decide) fun x hx => ?_, taleOk_of (by rw [List.length_append, List.length_append]; show 3 + 1 + 1 ≤ 300; decide) fun x hx => ?_⟩
      · rcases List.mem_append.mp hx with z | z
        · exact tale0_few x z
        · rw [List.mem_singleton.mp z]; exact last_few w hw
      · rcases List.mem_append.mp hx with z | z
        · rcases List.mem_append.mp z with y | y
          · exact tale0_few x y
          · rw [List.mem_singleton.mp y]; exact last_few w hw
        · rw [List.mem_singleton.mp z]; intro ss n r e; cases e
    refine ⟨_, rfl, a10, rfl, ⟨_, SqL.of h10⟩, for_list (K := K) (a := a10) (xs := vs10) (fun i σ H' => ∃ x2 x3 x4 : Option V, σ = [some (.ref a0), some (.ref a10), x2, x3, x4, none] ∧ Same G10 H') ?_ ?_ ?_ ?_⟩
    · exact ⟨_, _, _, rfl, Same.refl _⟩
    · rintro i σ G _ ⟨x2, x3, x4, rfl, g⟩
      exact SqL.of (g _ _ h10)
    · rintro i v σ G hv ⟨x2, x3, x4, rfl, g⟩
      obtain ⟨d, hd, hx⟩ := dxAll_get x10 hv
      rw [List.getElem?_map] at hd
      obtain ⟨wd, hw, ew⟩ : ∃ wd, lastW[i]? = some wd ∧ d = wd.toD := by
        cases e : lastW[i]? with
        | none => rw [e] at hd; cases hd
        | some wd => rw [e] at hd; exact ⟨wd, rfl, (Option.some.inj hd).symm⟩
      subst ew
      have hwm := List.mem_of_getElem? hw
      obtain ⟨f1, f2⟩ := last_fw wd hwm
      obtain ⟨o1, o2⟩ := wOk wd hwm
      have sG : Same G6 G := sT.trans g
      have haG := sG _ _ ha0
      have pw : PartAt G v wd := (dx_part hx).mono g
      have pt : Parts G [.ref t0, .ref t1, .ref t2] tale0 := (parts G6 1 c0 d0 c1 d1 d2).mono sG
      refine ⟨_, rfl, ?_⟩
      refine iE_of ⟨_, rfl, by show 1 ≤ sizeLine; decide, fun l1 nl1 => to_new nl1 fun J1 j1 hl1 => ?_⟩
      refine ⟨a0, l1, _, _, rfl, rfl, j1 _ _ haG, hl1, by show 3 + 1 ≤ sizeLine; decide, fun l2 nl2 => to_new nl2 fun J2 j2 hl2 => ?_⟩
      have j02 := j1.trans j2
      refine ⟨4, l2, tale0 ++ [wd], rfl, by decide, by decide, ⟨_, SqL.of hl2, (Parts.snoc pw pt).mono j02, o1⟩, by rw [List.length_append]; show 3 + 1 ≤ 30; decide, fun J3 r j3 nr ans => ?_⟩
      rw [f1] at ans
      obtain ⟨_, dx, hr⟩ := ans.resolve_left (fun z => by have := z.1; omega)
      have j03 := j02.trans j3
      refine ⟨_, rfl, ?_⟩
      refine iE_of ⟨_, rfl, by show 2 ≤ sizeLine; decide, fun t4 nt4 => to_new nt4 fun J4 j4 ht4 => ⟨by show 2 ≤ sizeLine; decide, fun l5 nl5 => to_new nl5 fun J5 j5 hl5 => ?_⟩⟩
      have j05 := j03.trans (j4.trans j5)
      refine ⟨a0, l5, _, _, rfl, rfl, j05 _ _ haG, hl5, by show 3 + 2 ≤ sizeLine; decide, fun l6 nl6 => to_new nl6 fun J6 j6 hl6 => ?_⟩
      have j06 := j05.trans j6
      have p6 : Parts J6 ([.ref t0, .ref t1, .ref t2] ++ [v, .ref t4]) (tale0 ++ [wd] ++ [.sing none]) := by
        have z := Parts.snoc (p := .sing none) (show PartAt J6 (.ref t4) (.sing none) from j6 _ _ (j5 _ _ ht4)) ((Parts.snoc pw pt).mono j06)
        rw [List.append_assoc] at z
        exact z
      have hr6 := j6 _ _ (j5 _ _ (j4 _ _ hr))
      refine ⟨_, _, rfl, ?_⟩
      refine ⟨_, rfl, _, _, _, _, _, rfl, .own _, ty_ins hr6 T.cls_Wrong T.ic_Wrong, T.ki_Wrong_Wrong, _, rfl, iteF ?_⟩
      refine ⟨_, rfl, r, _, dx, _, _, rfl, hr6, T.cls_Wrong, T.na_Wrong_place, wrF_place _, rfl, _, rfl, iteF ?_⟩
      refine ⟨_, rfl, r, dx, _, rfl, hr6, wrF_shows _, _, rfl, r, dx, l6, 4, 3, _, rfl, hr6, by decide, by decide, ⟨_, SqL.of hl6, p6, o2⟩, fun J7 j7 => ?_⟩
      rw [f2]
      refine ⟨_, _, rfl, rfl, _, rfl, iteF ?_⟩

      have j07 := j06.trans j7
      intro x dx8 nx ndx nex
      refine to_made nx ndx fun J8 j8 hx8 => ?_
      have j08 := j07.trans j8
      refine ⟨x, dx8, _, rfl, hx8, rfl, _, rfl, ?_⟩
      refine iE_of ⟨_, rfl, by show 1 ≤ sizeLine; decide, fun l9 nl9 => to_new nl9 fun J9 j9 hl9 => ?_⟩
      have j09 := j08.trans j9
      refine ⟨a0, l9, _, _, rfl, rfl, j09 _ _ haG, hl9, by show 3 + 1 ≤ sizeLine; decide, fun l10 nl10 => to_new nl10 fun J10 j10 hl10 => ?_⟩
      have j010 := j09.trans j10
      refine ⟨x, l10, 4, tale0 ++ [wd], rfl, by decide, by decide, ⟨_, SqL.of hl10, (Parts.snoc pw pt).mono j010, o1⟩, fun J11 j11 => ?_⟩
      rw [f1]
      refine ⟨_, _, rfl, rfl, _, rfl, iteF ?_⟩
      have j011 := j010.trans j11
      intro y dy ny ndy ney
      refine ⟨y, dy, .int 2, rfl, upd_same, fun J12 f12 hy12 => ⟨rfl, ?_⟩⟩
      have j12 : Same J11 J12 := made_same ny ndy f12
      have j612 : Same J6 J12 := j7.trans (j8.trans (j9.trans (j10.trans (j11.trans j12))))
      refine ⟨y, dy, _, rfl, hy12, wrF_shows _, _, rfl, y, dy, l6, 4, 2, _, rfl, hy12, by decide, by decide, ⟨_, SqL.of (j612 _ _ hl6), p6.mono j612, o2⟩, fun J13 j13 => ?_⟩
      rw [f2]
      refine ⟨_, _, rfl, rfl, _, rfl, iteF ?_⟩
      exact ⟨_, _, _, rfl, g.trans ((j011.trans j12).trans j13)⟩
    rintro σ G ⟨x2, x3, x4, rfl, g⟩
    have sG : Same G6 G := sT.trans g
    have haG := sG _ _ ha0
    have pt : Parts G [.ref t0, .ref t1, .ref t2] tale0 := (parts G6 1 c0 d0 c1 d1 d2).mono sG
    refine ⟨_, rfl, ?_⟩
    refine iE_of ⟨by show 2 ≤ sizeLine; decide, fun t1' nt1 => to_new nt1 fun J1 j1 ht1' => ⟨by show 1 ≤ sizeLine; decide, fun l2 nl2 => to_new nl2 fun J2 j2 hl2 => ?_⟩⟩
    have j02 := j1.trans j2
    refine ⟨a0, l2, _, _, rfl, rfl, j02 _ _ haG, hl2, by show 3 + 1 ≤ sizeLine; decide, fun l3 nl3 => to_new nl3 fun J3 j3 hl3 => ?_⟩
    have j03 := j02.trans j3
    have p3 : Parts J3 ([.ref t0, .ref t1, .ref t2] ++ [.ref t1']) (tale0 ++ [.sing (some 1)]) := Parts.snoc (p := .sing (some 1)) (show PartAt J3 (.ref t1') (.sing (some 1)) from j3 _ _ (j2 _ _ ht1')) (pt.mono j03)
    have o3 : TaleOk (tale0 ++ [.sing (some 1)]) := taleOk_of (by decide) fun x hx => by
      rcases List.mem_append.mp hx with z | z
      · exact tale0_few x z
      · rw [List.mem_singleton.mp z]; intro ss n r e; cases e
    refine ⟨_, rfl, 4, l3, _, rfl, by decide, by decide, ⟨_, SqL.of hl3, p3, o3⟩, by decide, fun J4 r j4 nr ans => ?_⟩
    rw [good_fw] at ans
    obtain ⟨_, dx, hr⟩ := ans.resolve_right (fun z => by have := z.1; omega)
    refine ⟨_, _, _, _, _, rfl, .own _, ty_ins hr T.cls_Right T.ic_Right, T.ki_Right_Right, _, rfl, iteF ?_⟩
    intro y dy ny ndy ney
    refine ⟨y, dy, .int 3, rfl, upd_same, fun J5 f5 hy5 => ⟨rfl, ?_⟩⟩
    have j5 : Same J4 J5 := made_same ny ndy f5
    have j45 := j4.trans j5
    refine ⟨y, dy, _, rfl, hy5, wrF_shows _, _, rfl, y, dy, l3, 4, 3, _, rfl, hy5, by decide, by decide, ⟨_, SqL.of (j45 _ _ hl3), p3.mono j45, o3⟩, fun J6 j6 => ?_⟩
    rw [good_fw]
    refine ⟨_, _, rfl, rfl, _, rfl, iteF ?_⟩
    have s66 : Same G6 J6 := sG.trans (j03.trans (j45.trans j6))
    have nb0 : b0 ≠ b1 := fun z => by rw [z, c1] at c0; simp at c0
    have nt0 : t0 ≠ b1 := fun z => by rw [z, c1] at d0; cases d0
    have nt1' : t1 ≠ b1 := fun z => by rw [z, c1] at d1; cases d1
    have nt2 : t2 ≠ b1 := fun z => by rw [z, c1] at d2; cases d2
    have na0 : a0 ≠ b1 := fun z => by rw [z, c1] at ha0; simp at ha0
    have newb : H b1 = none := g1.free (g2.free m1)
    refine ⟨_, rfl, a0, _, _, _, rfl, rfl, SqL.of (s66 _ _ ha0), atI_nat (j := 1) rfl, t1, _, _, _, rfl, rfl, SqT.of (s66 _ _ d1), atI_nat (j := 1) rfl, b1, _, _, 0, rfl, rfl, s66 _ _ c1, rfl, ?_⟩
    refine to_put fun J7 f7 h7 => ?_
    have h7 : J7 b1 = some (.lst [V.int 0]) := h7
    have q0 := f7.one nb0 (s66 _ _ c0)
    have q1 := f7.one nt0 (s66 _ _ d0)
    have q3 := f7.one nt1' (s66 _ _ d1)
    have q4 := f7.one nt2 (s66 _ _ d2)
    have qa := f7.one na0 (s66 _ _ ha0)
    have p7 := parts J7 0 q0 q1 h7 q3 q4
    have ob : TaleOk [.wish [0] 0 1, .wish [0] 1 1, .sing (some 0)] := taleOk_of (by decide) fun x hx ss n r e => by
      subst e
      revert hx
      simp only [List.mem_cons, Part.wish.injEq, reduceCtorEq, List.not_mem_nil, or_false]
      rintro (⟨rfl, _⟩ | ⟨rfl, _⟩) <;> decide
    refine ⟨_, rfl, 4, a0, _, rfl, by decide, by decide, ⟨_, SqL.of qa, p7, ob⟩, by decide, fun J8 r8 j8 nr8 ans8 => ?_⟩
    rw [bent_fw] at ans8
    obtain ⟨_, dx8, hr8⟩ := ans8.resolve_left (fun z => by have := z.1; omega)
    intro x dx9 nx ndx nex
    refine to_made nx ndx fun J9 j9 hx9 => ?_
    have j79 := j8.trans j9
    refine ⟨x, dx9, _, rfl, hx9, rfl, _, rfl, x, a0, 4, _, rfl, by decide, by decide, ⟨_, SqL.of (j79 _ _ qa), p7.mono j79, ob⟩, fun J10 j10 => ?_⟩
    rw [bent_fw]
    refine ⟨_, _, rfl, rfl, _, rfl, iteF ?_⟩
    have hr10 := j10 _ _ (j9 _ _ hr8)
    refine ⟨_, rfl, _, _, _, _, _, rfl, .own _, ty_ins hr10 T.cls_Wrong T.ic_Wrong, T.ki_Wrong_Wrong, _, rfl, iteF ?_⟩
    refine ⟨_, rfl, r8, _, dx8, _, _, rfl, hr10, T.cls_Wrong, T.na_Wrong_place, wrF_place _, rfl, _, rfl, iteF ?_⟩
    have j710 := j79.trans j10
    refine ⟨_, rfl, a0, _, _, _, rfl, rfl, SqL.of (j710 _ _ qa), atI_nat (j := 1) rfl, t1, _, _, _, rfl, rfl, SqT.of (j710 _ _ q3), atI_nat (j := 1) rfl, b1, _, _, 0, rfl, rfl, j710 _ _ h7, rfl, ?_⟩
    refine to_put fun J11 f11 h11 => ?_
    have h11 : J11 b1 = some (.lst [V.int 1]) := h11
    have hr11 : J11 r8 = some (.ins (He.ga K "Wrong") dx8 (wrF (.int 1))) := f11.one (fun z => by rw [z, h7] at nr8; cases nr8) hr10
    have qa11 := f11.one na0 (j710 _ _ qa)
    have p11 := parts J11 1 (f11.one nb0 (j710 _ _ q0)) (f11.one nt0 (j710 _ _ q1)) h11 (f11.one nt1' (j710 _ _ q3)) (f11.one nt2 (j710 _ _ q4))
    have ot : TaleOk tale0 := taleOk_of (by decide) tale0_few
    refine ⟨_, rfl, r8, dx8, _, rfl, hr11, wrF_shows _, _, rfl, r8, dx8, a0, 4, 1, _, rfl, hr11, by decide, by decide, ⟨_, SqL.of qa11, p11, ot⟩, fun J12 j12 => ?_⟩
    rw [show firstWrong 4 [.wish [0] 0 1, .wish [1] 1 1, .sing (some 0)] = -1 from tale0_fw]
    refine ⟨_, _, rfl, rfl, _, rfl, iteT ?_⟩
    intro x2' dx13 nx2 ndx2 nex2
    refine to_made nx2 ndx2 fun J13 j13 hx13 => ?_
    have j113 := j12.trans j13
    refine ⟨x2', dx13, _, rfl, hx13, rfl, _, rfl, x2', a0, 4, _, rfl, by decide, by decide, ⟨_, SqL.of (j113 _ _ qa11), p11.mono j113, ot⟩, fun J14 j14 => ?_⟩
    rw [show firstWrong 4 [.wish [0] 0 1, .wish [1] 1 1, .sing (some 0)] = -1 from tale0_fw]
    refine ⟨_, _, rfl, rfl, ?_⟩
    have fin : Same H J11 := Fra.back (Fra.back (s06.trans s66) f7 (fun a ha => by rw [List.mem_singleton.mp ha]; exact newb) |>.trans j710) f11 (fun a ha => by rw [List.mem_singleton.mp ha]; exact newb)
    exact q J14 (fin.trans (j113.trans j14))
end
end Song

/-! ### H4: _law_more_right of k13 -/
namespace Song
open PySem L2
theorem num_fw : ∀ n ∈ [1, 0, -1, p20], firstWrong 4 (tale0 ++ [.wish [2] n 1]) = 3 := by decide +kernel
def longT : List Part := ((List.range 24).map fun i : Nat => Part.wish [0] (i : Int) ((i : Int) + 1)) ++ [.sing (some 0), .out 5]
theorem long_fw : firstWrong 1 longT = -1 ∧ firstWrong 1 (longT ++ [.wish [0] 24 25]) = 26 := by decide +kernel
theorem word_fw : firstWrong 3 [.wish [3] 0 1] = 0 ∧ firstWrong 4 [.wish [3] 0 1] = -1 ∧ firstWrong 5 [.wish [3] 0 1] = -1 := by decide +kernel
theorem w200_fw : firstWrong 4 [.wish (upto 200) 0 1] = 0 := by decide +kernel
def twiceT (z : Int) : List Part := [.wish [z] 0 1, .wish [1] 1 1, .wish [z] 2 2]
theorem twice_fw : firstWrong 2 (twiceT 0) = -1 ∧ firstWrong 2 (twiceT 1) = 1 := by decide +kernel
theorem twice_lg : least (pick [[1], [0], [1]] [0, 1, 2]) = some 1 ∧ least (pick [[0], [0], [0]] [0, 1, 2]) = some 0 := by decide +kernel
def bs8 : List Int := [0, 0, 1, 2, 2, 3, 3, 4]
theorem bar8 : barsP bs8 5 [0, 2, 3] = true ∧ barsP bs8 5 [0, 1, 2, 3] = false ∧ barsP bs8 5 [0, 1, 2] = false ∧ barsP bs8 5 [0, 2] = false := by decide +kernel
theorem bar3 : barsP [0, 0, 1] p20 [0] = true ∧ barsP [0, 0, 1] p20 [1] = false ∧ barsP [0, 0, 1] p20 [0, 1] = false := by decide +kernel
theorem sp10 : showsSp [0, 1] [1, 0] p20 = true := by decide +kernel
theorem p20_gap : GapOk p20 := by unfold GapOk; decide +kernel
/-- short singers in all parts -/
def fewP (t : List Part) : Bool := t.all fun w => match w with
  | .wish ss _ _ => decide (ss.length ≤ 1000)
  | _ => true
theorem fewP_ok {t : List Part} (h : t.length ≤ 300) (k : fewP t = true) : TaleOk t := ⟨h, fun ss n r hm => of_decide_eq_true (List.all_eq_true.mp k _ hm)⟩
section
variable {P : Program} {w : World} {K : PySem.W.Frag} {mg : Str → Option Value} {base : Heap}
theorem sc__law_more_right : FnScope ["_law_tale", "_law_number", "_law_found", "_law_long", "_law_at", "_law_word", "_law_many", "_law_one", "_law_twice", "_law_songs", "_law_singers", "_law_good", "_law_far", "_law_told"] [] (defScope s__law_more_right) := ⟨rfl, rfl, rfl, by decide +kernel, rfl, by decide +kernel, by decide +kernel⟩
theorem fn__law_more_right (T : Tx K mg) : Fn P w K mg base "_law_more_right" 7 sp_true := by
  obtain ⟨fd, F⟩ := T.d__law_more_right
  refine ⟨_, fd, _, F.ok (CX := CX0) sc__law_more_right (fun vs H Q E h => ?_) (fun cdv A outer s H vs Q E hr h => ?_), T.g__law_more_right, F.kp, F.bindsN fun _ _ _ _ _ _ us hl => match us, hl with | [], _ => rfl⟩
  · obtain ⟨rfl, _⟩ := h; rfl
  · obtain ⟨rfl, q⟩ := h
    refine ⟨_, PSs.nox (pss_cons (ps_set (i := 0) sc__law_more_right.nd rfl (by first | exact Or.inl rfl | exact Or.inr rfl) (pe_iE (pe_lst (pa_cons (pe_tup (pa_cons pe_str (pa_cons (pe_lst (pa_cons pe_int pa_nil)) (pa_cons pe_int (pa_cons pe_int pa_nil))))) (pa_cons (pe_tup (pa_cons pe_str (pa_cons (pe_lst (pa_cons pe_int pa_nil)) (pa_cons pe_int (pa_cons pe_int pa_nil))))) (pa_cons (pe_tup (pa_cons pe_str (pa_cons pe_int pa_nil))) pa_nil))))))
      (pss_cons (ps_for PassesOwn.never rfl (show PI _ _ _ (iTup K _) from pi_tup (pe_tup (pa_cons pe_int (pa_cons pe_int (pa_cons (pe_un un_neg pe_int) (pa_cons (pe_op op_pow pe_int pe_int) pa_nil)))))) (pg_name (i := 1) sc__law_more_right.nd rfl (by first | exact Or.inl rfl | exact Or.inr rfl))
      (pss_cons (ps_set (i := 2) sc__law_more_right.nd rfl (by first | exact Or.inl rfl | exact Or.inr rfl) (pe_fn (fn_judged T) (hr.mono (by first | decide | omega)) (by rfl) (pa_cons pe_int (pa_cons (pe_op op_cat (pv 0) (pe_iE (pe_lst (pa_cons (pe_tup (pa_cons pe_str (pa_cons (pe_lst (pa_cons pe_int pa_nil)) (pa_cons (pv 1) (pa_cons pe_int pa_nil))))) pa_nil)))) pa_nil))))
      (pss_one (ps_if (PW.pt (pw_or (pt_not (pt_val (pe_callB (show CallR _ _ (rIsi K) from call_isi) (by rfl) T.isinstance (by decide +kernel) (pa_cons (pv 2) (pa_cons (pe_gc T.g_Wrong (by rfl)) pa_nil))))) (pw_or1 (pt_cmpR op_ne (show PE _ _ (tFld K _ _) from pe_fld (pv 2) rfl) pe_int (nomark _))))) (pss_one (ps_ret pe_bl)) pss_nil))))
      (pss_cons (ps_set (i := 3) sc__law_more_right.nd rfl (by first | exact Or.inl rfl | exact Or.inr rfl) (pe_op op_cat (pe_lc (own := [("_law_at", 4)]) (g := (gName 4)) (tt := tYes) (by rfl) sc__law_more_right.nd (pi_range1 (by rfl) T.range (pa_cons pe_int pa_nil)) (blkOk_by (by kernel_rfl)) (fun _ _ _ _ _ => (pg_name (i := 4) sc__law_more_right.nd rfl (by first | exact Or.inl rfl | exact Or.inr rfl))) (fun _ _ _ _ _ => pts_nil) (fun _ _ _ _ _ => (pe_tup (pa_cons pe_str (pa_cons (pe_iE (pe_lst (pa_cons pe_int pa_nil))) (pa_cons (pv 4) (pa_cons (pe_op op_add (pv 4) pe_int) pa_nil))))))) (pe_iE (pe_lst (pa_cons (pe_tup (pa_cons pe_str (pa_cons pe_int pa_nil))) (pa_cons (pe_tup (pa_cons pe_str (pa_cons pe_int pa_nil))) pa_nil))))))
      (pss_cons (ps_set (i := 2) sc__law_more_right.nd rfl (by first | exact Or.inl rfl | exact Or.inr rfl) (pe_fn (fn_judged T) (hr.mono (by first | decide | omega)) (by rfl) (pa_cons pe_int (pa_cons (pe_op op_cat (pv 3) (pe_iE (pe_lst (pa_cons (pe_tup (pa_cons pe_str (pa_cons (pe_lst (pa_cons pe_int pa_nil)) (pa_cons pe_int (pa_cons pe_int pa_nil))))) pa_nil)))) pa_nil))))
      (pss_cons (ps_if (PW.pt (pw_or (pt_not (pt_val (pe_callB (show CallR _ _ (rIsi K) from call_isi) (by rfl) T.isinstance (by decide +kernel) (pa_cons (pe_fn (fn_judged T) (hr.mono (by first | decide | omega)) (by rfl) (pa_cons pe_int (pa_cons (pv 3) pa_nil))) (pa_cons (pe_gc T.g_Right (by rfl)) pa_nil))))) (pw_or (pt_not (pt_val (pe_callB (show CallR _ _ (rIsi K) from call_isi) (by rfl) T.isinstance (by decide +kernel) (pa_cons (pv 2) (pa_cons (pe_gc T.g_Wrong (by rfl)) pa_nil))))) (pw_or1 (pt_cmpR op_ne (show PE _ _ (tFld K _ _) from pe_fld (pv 2) rfl) pe_int (nomark _)))))) (pss_one (ps_ret pe_bl)) pss_nil)
      (pss_cons (ps_set (i := 5) sc__law_more_right.nd rfl (by first | exact Or.inl rfl | exact Or.inr rfl) (pe_iE (pe_lst (pa_cons (pe_tup (pa_cons pe_str (pa_cons (pe_lst (pa_cons pe_int pa_nil)) (pa_cons pe_int (pa_cons pe_int pa_nil))))) pa_nil))))
      (pss_cons (ps_if (pt_cmpR (show OpR _ _ (rNeD K) from op_neD hr.units) (pe_lc (own := [("_law_many", 6)]) (g := (gName 6)) (tt := tYes) (by rfl) sc__law_more_right.nd (show PI _ _ _ (iTup K _) from pi_tup (pe_tup (pa_cons pe_int (pa_cons pe_int (pa_cons pe_int pa_nil))))) (blkOk_by (by kernel_rfl)) (fun _ _ _ _ _ => (pg_name (i := 6) sc__law_more_right.nd rfl (by first | exact Or.inl rfl | exact Or.inr rfl))) (fun _ _ _ _ _ => pts_nil) (fun _ _ _ _ _ => (pe_me (me_Right_shows T) (hr.mono (by first | decide | omega)) (pe_mkO T.mkb_Right (by rfl) T.g_Right) (pa_cons (pv 6) (pa_cons (pv 5) pa_nil))))) (pe_iE (pe_lst (pa_cons pe_bl (pa_cons pe_bl (pa_cons pe_bl pa_nil))))) (nomark _)) (pss_one (ps_ret pe_bl)) pss_nil)
      (pss_cons (ps_if (pt_cmpR (show OpR _ _ (rNeD K) from op_neD hr.units) (pe_lc (own := [("_law_many", 6)]) (g := (gName 6)) (tt := tYes) (by rfl) sc__law_more_right.nd (show PI _ _ _ (iTup K _) from pi_tup (pe_tup (pa_cons pe_int (pa_cons pe_int (pa_cons pe_int pa_nil))))) (blkOk_by (by kernel_rfl)) (fun _ _ _ _ _ => (pg_name (i := 6) sc__law_more_right.nd rfl (by first | exact Or.inl rfl | exact Or.inr rfl))) (fun _ _ _ _ _ => pts_nil) (fun _ _ _ _ _ => (pe_me (me_Wrong_shows T) (hr.mono (by first | decide | omega)) (pe_mk (mk_Wrong T) (hr.mono (by first | decide | omega)) (by rfl) (pa_cons pe_int pa_nil)) (pa_cons (pv 6) (pa_cons (pv 5) pa_nil))))) (pe_iE (pe_lst (pa_cons pe_bl (pa_cons pe_bl (pa_cons pe_bl pa_nil))))) (nomark _)) (pss_one (ps_ret pe_bl)) pss_nil)
      (pss_cons (ps_set (i := 2) sc__law_more_right.nd rfl (by first | exact Or.inl rfl | exact Or.inr rfl) (pe_fn (fn_judged T) (hr.mono (by first | decide | omega)) (by rfl) (pa_cons pe_int (pa_cons (pe_iE (pe_lst (pa_cons (pe_tup (pa_cons pe_str (pa_cons (pe_listRg (by rfl) (by rfl) T.list (prg_1 (by rfl) T.range pe_int)) (pa_cons pe_int (pa_cons pe_int pa_nil))))) pa_nil))) pa_nil))))
      (pss_cons (ps_set (i := 7) sc__law_more_right.nd rfl (by first | exact Or.inl rfl | exact Or.inr rfl) (pe_iE (pe_lst (pa_cons pe_int pa_nil))))
      (pss_cons (ps_set (i := 8) sc__law_more_right.nd rfl (by first | exact Or.inl rfl | exact Or.inr rfl) (pe_iE (pe_lst (pa_cons (pe_tup (pa_cons pe_str (pa_cons (pv 7) (pa_cons pe_int (pa_cons pe_int pa_nil))))) (pa_cons (pe_tup (pa_cons pe_str (pa_cons (pe_lst (pa_cons pe_int pa_nil)) (pa_cons pe_int (pa_cons pe_int pa_nil))))) (pa_cons (pe_tup (pa_cons pe_str (pa_cons (pv 7) (pa_cons pe_int (pa_cons pe_int pa_nil))))) pa_nil))))))
      (pss_cons (ps_if (PW.pt (pw_or (pt_not (pt_val (pe_callB (show CallR _ _ (rIsi K) from call_isi) (by rfl) T.isinstance (by decide +kernel) (pa_cons (pv 2) (pa_cons (pe_gc T.g_Wrong (by rfl)) pa_nil))))) (pw_or (pt_cmpR op_ne (show PE _ _ (tFld K _ _) from pe_fld (pv 2) rfl) pe_int (nomark _)) (pw_or1 (pt_not (pt_val (pe_callB (show CallR _ _ (rIsi K) from call_isi) (by rfl) T.isinstance (by decide +kernel) (pa_cons (pe_fn (fn_judged T) (hr.mono (by first | decide | omega)) (by rfl) (pa_cons pe_int (pa_cons (pv 8) pa_nil))) (pa_cons (pe_gc T.g_Right (by rfl)) pa_nil))))))))) (pss_one (ps_ret pe_bl)) pss_nil)
      (pss_cons (ps_asg pe_int (pg_sub (pv 7) pe_int set_list))
      (pss_cons (ps_set (i := 2) sc__law_more_right.nd rfl (by first | exact Or.inl rfl | exact Or.inr rfl) (pe_fn (fn_judged T) (hr.mono (by first | decide | omega)) (by rfl) (pa_cons pe_int (pa_cons (pv 8) pa_nil))))
      (pss_cons (ps_if (PW.pt (pw_or (pt_not (pt_val (pe_callB (show CallR _ _ (rIsi K) from call_isi) (by rfl) T.isinstance (by decide +kernel) (pa_cons (pv 2) (pa_cons (pe_gc T.g_Wrong (by rfl)) pa_nil))))) (pw_or (pt_cmpR op_ne (show PE _ _ (tFld K _ _) from pe_fld (pv 2) rfl) pe_int (nomark _)) (pw_or1 (pt_cmpR op_ne (pe_fn (fn_least_gap T) (hr.mono (by first | decide | omega)) (by rfl) (pa_cons (pe_iE (pe_lst (pa_cons (pv 7) (pa_cons (pe_lst (pa_cons pe_int pa_nil)) (pa_cons (pv 7) pa_nil))))) (pa_cons (pe_iE (pe_lst (pa_cons pe_int (pa_cons pe_int (pa_cons pe_int pa_nil))))) pa_nil))) pe_int (nomark _)))))) (pss_one (ps_ret pe_bl)) pss_nil)
      (pss_cons (ps_asg pe_int (pg_sub (pv 7) pe_int set_list))
      (pss_cons (ps_if (PW.pt (pw_or (pt_not (pt_val (pe_callB (show CallR _ _ (rIsi K) from call_isi) (by rfl) T.isinstance (by decide +kernel) (pa_cons (pe_fn (fn_judged T) (hr.mono (by first | decide | omega)) (by rfl) (pa_cons pe_int (pa_cons (pv 8) pa_nil))) (pa_cons (pe_gc T.g_Right (by rfl)) pa_nil))))) (pw_or1 (pt_cmpR op_ne (pe_fn (fn_least_gap T) (hr.mono (by first | decide | omega)) (by rfl) (pa_cons (pe_iE (pe_lst (pa_cons (pv 7) (pa_cons (pe_lst (pa_cons pe_int pa_nil)) (pa_cons (pv 7) pa_nil))))) (pa_cons (pe_iE (pe_lst (pa_cons pe_int (pa_cons pe_int (pa_cons pe_int pa_nil))))) pa_nil))) pe_int (nomark _))))) (pss_one (ps_ret pe_bl)) pss_nil)
      (pss_cons (ps_set (i := 9) sc__law_more_right.nd rfl (by first | exact Or.inl rfl | exact Or.inr rfl) (pe_iE (pe_lst (pa_cons pe_int (pa_cons pe_int (pa_cons pe_int (pa_cons pe_int (pa_cons pe_int (pa_cons pe_int (pa_cons pe_int (pa_cons pe_int pa_nil)))))))))))
      (pss_cons (ps_for PassesOwn.never rfl (show PI _ _ _ (iTup K _) from pi_tup (pe_tup (pa_cons (pe_tup (pa_cons (pe_iE (pe_lst (pa_cons pe_int (pa_cons pe_int (pa_cons pe_int pa_nil))))) (pa_cons pe_bl pa_nil))) (pa_cons (pe_tup (pa_cons (pe_iE (pe_lst (pa_cons pe_int (pa_cons pe_int (pa_cons pe_int (pa_cons pe_int pa_nil)))))) (pa_cons pe_bl pa_nil))) (pa_cons (pe_tup (pa_cons (pe_iE (pe_lst (pa_cons pe_int (pa_cons pe_int (pa_cons pe_int pa_nil))))) (pa_cons pe_bl pa_nil))) (pa_cons (pe_tup (pa_cons (pe_iE (pe_lst (pa_cons pe_int (pa_cons pe_int pa_nil)))) (pa_cons pe_bl pa_nil))) pa_nil)))))) (show PG _ _ (gTup K _ _) from pg_tup rfl (pgs_cons (pg_name (i := 10) sc__law_more_right.nd rfl (by first | exact Or.inl rfl | exact Or.inr rfl)) (pgs_cons (pg_name (i := 11) sc__law_more_right.nd rfl (by first | exact Or.inl rfl | exact Or.inr rfl)) pgs_nil)))
      (pss_one (ps_if (pt_cmpR op_ne (pe_me (me_Barred_shows T) (hr.mono (by first | decide | omega)) (pe_mk (mk_Barred T) (hr.mono (by first | decide | omega)) (by rfl) (pa_cons (pv 10) pa_nil)) (pa_cons (pv 9) (pa_cons pe_int pa_nil))) (pv 11) (nomark _)) (pss_one (ps_ret pe_bl)) pss_nil)))
      (pss_cons (ps_set (i := 12) sc__law_more_right.nd rfl (by first | exact Or.inl rfl | exact Or.inr rfl) (pe_op op_pow pe_int pe_int))
      (pss_cons (ps_setLc (i := 13) (own := [("_law_singers", 10)]) (g := (gName 10)) (tt := tYes) (by rfl) sc__law_more_right.nd rfl rfl (sw_true rfl rfl rfl (by decide +kernel)) (show PI _ _ _ (iTup K _) from pi_tup (pe_tup (pa_cons (pe_iE (pe_lst (pa_cons pe_int pa_nil))) (pa_cons (pe_iE (pe_lst (pa_cons pe_int pa_nil))) (pa_cons (pe_iE (pe_lst (pa_cons pe_int (pa_cons pe_int pa_nil)))) pa_nil))))) (blkOk_by (by kernel_rfl)) (fun _ _ _ _ _ => (pg_name (i := 10) sc__law_more_right.nd rfl (by first | exact Or.inl rfl | exact Or.inr rfl))) (fun _ _ _ _ _ => pts_nil) (fun _ _ _ _ _ => (pe_me (me_Barred_shows T) (hr.mono (by first | decide | omega)) (pe_mk (mk_Barred T) (hr.mono (by first | decide | omega)) (by rfl) (pa_cons (pv 10) pa_nil)) (pa_cons (pe_iE (pe_lst (pa_cons pe_int (pa_cons pe_int (pa_cons pe_int pa_nil))))) (pa_cons (pv 12) pa_nil)))))
      (pss_one (ps_ret (pe_and (pe_cmpR (show OpR _ _ (rEqD K) from op_eqD hr.units) (pv 13) (pe_iE (pe_lst (pa_cons pe_bl (pa_cons pe_bl (pa_cons pe_bl pa_nil))))) (nomark _)) (pe_one (pe_cmpR op_isBl (pe_me (me_Spaced_shows T) (hr.mono (by first | decide | omega)) (pe_mk (mk_Spaced T) (hr.mono (by first | decide | omega)) (by rfl) (pa_cons (pe_iE (pe_lst (pa_cons pe_int (pa_cons pe_int pa_nil)))) pa_nil)) (pa_cons (pe_iE (pe_lst (pa_cons pe_int (pa_cons pe_int pa_nil)))) (pa_cons (pv 12) pa_nil))) pe_bl (nomark _))))))))))))))))))))))))))), ?_⟩
    have none0 : ∀ (X : Hp), ∀ a ∈ ([] : List Addr), ∃ o, X a = some o := fun X a ha => by cases ha
    refine rd_setD (gv_lst (ga_cons (gv_tup (ga_cons (gv_str (s := "wish")) (ga_cons (gv_lst (ga_cons (gv_int (i := 0)) ga_nil)) (ga_cons (gv_int (i := 0)) (ga_cons (gv_int (i := 1)) ga_nil))))) (ga_cons (gv_tup (ga_cons (gv_str (s := "wish")) (ga_cons (gv_lst (ga_cons (gv_int (i := 1)) ga_nil)) (ga_cons (gv_int (i := 1)) (ga_cons (gv_int (i := 1)) ga_nil))))) (ga_cons (gv_tup (ga_cons (gv_str (s := "sing")) (ga_cons (gv_int (i := 0)) ga_nil))) ga_nil)))) fun v1 H1 s1 d1 => ?_
    obtain ⟨a1, vs1, rfl, h1, x1⟩ := dx_lst d1
    have pt1 : Parts H1 vs1 tale0 := dxAll_parts (t := tale0) x1
    have l1 := pt1.len
    refine ⟨_, rfl, _, _, rfl, rfl, ⟨by decide, by decide, by decide⟩, by show 4 ≤ sizeLine; decide, fun tt ntt => to_new ntt fun H2 s2 htt => ?_⟩
    refine ⟨tt, rfl, ⟨_, SqT.of htt⟩, for_tup (K := K) (a := tt) (xs := [V.int 1, .int 0, .int (-1), .int p20]) (fun i σ H' => ∃ x1 x2 : Option V, σ = [some (.ref a1), x1, x2, none, none, none, none, none, none, none, none, none, none, none] ∧ Same H2 H') ?_ ?_ ?_ ?_⟩
    · exact ⟨_, _, rfl, Same.refl _⟩
    · rintro i σ G _ ⟨x1, x2, rfl, g⟩
      exact SqT.of (g _ _ htt)
    · rintro i v σ G hv ⟨x1, x2, rfl, g⟩
      obtain ⟨n, rfl, hn⟩ : ∃ n : Int, v = .int n ∧ n ∈ [1, 0, -1, p20] := by
        have hm := List.mem_of_getElem? hv
        simp only [List.mem_cons, List.not_mem_nil, or_false] at hm
        rcases hm with rfl | rfl | rfl | rfl
        · exact ⟨1, rfl, by simp⟩
        · exact ⟨0, rfl, by simp⟩
        · exact ⟨-1, rfl, by simp⟩
        · exact ⟨p20, rfl, by simp⟩
      have sG : Same H1 G := s2.trans g
      refine ⟨_, rfl, ?_⟩
      refine iE_of ⟨by show 1 ≤ sizeLine; decide, fun b3 m3 => to_new m3 fun J3 j3 hb3 => ⟨_, rfl, by show 4 ≤ sizeLine; decide, fun t4 m4 => to_new m4 fun J4 j4 ht4 => ⟨by show 1 ≤ sizeLine; decide, fun l5 m5 => to_new m5 fun J5 j5 hl5 => ?_⟩⟩⟩
      have j05 := j3.trans (j4.trans j5)
      refine ⟨a1, l5, _, _, rfl, rfl, j05 _ _ (sG _ _ h1), hl5, by rw [l1]; show 3 + 1 ≤ sizeLine; decide, fun l6 m6 => to_new m6 fun J6 j6 hl6 => ?_⟩
      have p6 : Parts J6 (vs1 ++ [.ref t4]) (tale0 ++ [.wish [2] n 1]) := Parts.snoc (p := .wish [2] n 1) (show PartAt J6 (.ref t4) (.wish [2] n 1) from ⟨b3, j6 _ _ (j5 _ _ ht4), j6 _ _ (j5 _ _ (j4 _ _ hb3))⟩) (pt1.mono (sG.trans (j05.trans j6)))
      refine ⟨4, l6, _, rfl, by decide, by decide, ⟨_, SqL.of hl6, p6, fewP_ok (by rw [List.length_append]; show 3 + 1 ≤ 300; decide) rfl⟩, by rw [List.length_append]; show 3 + 1 ≤ 30; decide, fun J7 r j7 nr ans => ?_⟩
      rw [num_fw n hn] at ans
      obtain ⟨_, dx, hr⟩ := ans.resolve_left (fun z => by have := z.1; omega)
      refine ⟨_, rfl, _, _, _, _, _, rfl, .own _, ty_ins hr T.cls_Wrong T.ic_Wrong, T.ki_Wrong_Wrong, _, rfl, iteF ?_⟩
      refine ⟨_, rfl, r, _, dx, _, _, rfl, hr, T.cls_Wrong, T.na_Wrong_place, wrF_place _, rfl, _, rfl, iteF ?_⟩
      exact ⟨_, _, rfl, g.trans (j05.trans (j6.trans j7))⟩
    rintro σ G ⟨w1s, w2s, rfl, g⟩
    have sG0 : Same H G := s1.trans (s2.trans g)
    -- long
    refine ⟨24, rfl, by decide, by decide, fun D8 nD8 => lc_all walk_range (fun _ _ _ h => h) trivial (fun j X y => PartAt X y (.wish [0] (j : Int) ((j : Int) + 1))) (fun i X1 X2 y sx hx => hx.mono sx) nD8 (by decide) ?_ ?_ gname_mono⟩
    · rintro j v X1 X2 acc hj sx hD ⟨rfl, rfl⟩ k hk
      refine ⟨rfl, ?_⟩
      refine iE_of ⟨by show 1 ≤ sizeLine; decide, fun b nb => to_new nb fun X3 x3 hb => ⟨_, rfl, _, rfl, _, _, rfl, rfl, by show 4 ≤ sizeLine; decide, fun t nt => ?_⟩⟩
      have ntD : t ≠ D8 := (ne_of_none (x3 _ _ hD) nt).symm
      have nbD : b ≠ D8 := (ne_of_none hD nb).symm
      refine hk _ _ (x3.trans (Same.new nt)) ⟨b, ?_, ?_⟩
      · rw [off_out (by simpa using ntD), upd_same]
        show some (HO.tup [.str "wish", .ref b, .int (0 + (j : Int)), .int (0 + (j : Int) + 1)]) = _
        rw [show (0 + (j : Int)) = (j : Int) by omega]
      · rw [off_out (by simpa using nbD), upd_ne (ne_of_none hb nt)]; exact hb
    intro vs8 H8 s8 h8 l8 x8
    have p8 : Parts (off [D8] H8) vs8 ((List.range 24).map fun i : Nat => Part.wish [0] (i : Int) ((i : Int) + 1)) := Parts.of (by rw [l8]; rfl) fun i v e => by
      have hi : i < 24 := by have := (List.getElem?_eq_some_iff.mp e).1; rw [l8] at this; exact this
      exact ⟨_, by rw [List.getElem?_map, List.getElem?_range hi]; rfl, x8 i v e⟩
    refine iE_of ⟨by show 2 ≤ sizeLine; decide, fun t9 m9 => to_new m9 fun J9 j9 ht9 => ⟨by show 2 ≤ sizeLine; decide, fun t10 m10 => to_new m10 fun J10 j10 ht10 => ⟨by show 2 ≤ sizeLine; decide, fun l11 m11 => to_new m11 fun J11 j11 hl11 => ?_⟩⟩⟩
    have j811 := j9.trans (j10.trans j11)
    refine ⟨D8, l11, _, _, rfl, rfl, j811 _ _ h8, hl11, by rw [l8]; show 24 + 2 ≤ sizeLine; decide, fun a12 m12 => to_new m12 fun J12 j12 ha12 => ?_⟩
    have pL : Parts J12 (vs8 ++ [.ref t9, .ref t10]) longT := Parts.app ((p8.mono (off_le _ _)).mono (j811.trans j12)) ⟨show PartAt J12 (.ref t9) (.sing (some 0)) from j12 _ _ (j11 _ _ (j10 _ _ ht9)), show PartAt J12 (.ref t10) (.out 5) from j12 _ _ (j11 _ _ ht10), trivial⟩
    have okL : TaleOk longT := fewP_ok (by decide) (by decide +kernel)
    have okL2 : TaleOk (longT ++ [.wish [0] 24 25]) := fewP_ok (by decide) (by decide +kernel)
    have lL := pL.len
    have sL : Same H J12 := sG0.trans (s8.trans (j811.trans j12))
    -- found
    refine ⟨_, rfl, ?_⟩
    refine iE_of ⟨by show 1 ≤ sizeLine; decide, fun b3 m3 => to_new m3 fun J13 j13 hb3 => ⟨by show 4 ≤ sizeLine; decide, fun t4 m4 => to_new m4 fun J14 j14 ht4 => ⟨by show 1 ≤ sizeLine; decide, fun l5 m5 => to_new m5 fun J15 j15 hl5 => ?_⟩⟩⟩
    have j05 := j13.trans (j14.trans j15)
    refine ⟨a12, l5, _, _, rfl, rfl, j05 _ _ ha12, hl5, by rw [lL]; show 26 + 1 ≤ sizeLine; decide, fun l6 m6 => to_new m6 fun J16 j16 hl6 => ?_⟩
    have p6 : Parts J16 ((vs8 ++ [.ref t9, .ref t10]) ++ [.ref t4]) (longT ++ [.wish [0] 24 25]) := Parts.snoc (p := .wish [0] 24 25) (show PartAt J16 (.ref t4) (.wish [0] 24 25) from ⟨b3, j16 _ _ (j15 _ _ ht4), j16 _ _ (j15 _ _ (j14 _ _ hb3))⟩) (pL.mono (j05.trans j16))
    refine ⟨1, l6, _, rfl, by decide, by decide, ⟨_, SqL.of hl6, p6, okL2⟩, by decide, fun J17 r j17 nr ans => ?_⟩
    rw [long_fw.2] at ans
    obtain ⟨_, dx, hr⟩ := ans.resolve_left (fun z => by have := z.1; omega)
    have j017 := j05.trans (j16.trans j17)
    refine ⟨_, rfl, 1, a12, _, rfl, by decide, by decide, ⟨_, SqL.of (j017 _ _ ha12), pL.mono j017, okL⟩, by decide, fun J18 r18 j18 nr18 ans18 => ?_⟩
    rw [long_fw.1] at ans18
    obtain ⟨_, dx18, hr18⟩ := ans18.resolve_right (fun z => by have := z.1; omega)
    refine ⟨_, _, _, _, _, rfl, .own _, ty_ins hr18 T.cls_Right T.ic_Right, T.ki_Right_Right, _, rfl, iteF ?_⟩
    have hrB := j18 _ _ hr
    refine ⟨_, rfl, _, _, _, _, _, rfl, .own _, ty_ins hrB T.cls_Wrong T.ic_Wrong, T.ki_Wrong_Wrong, _, rfl, iteF ?_⟩
    refine ⟨_, rfl, r, _, dx, _, _, rfl, hrB, T.cls_Wrong, T.na_Wrong_place, wrF_place _, rfl, _, rfl, iteF ?_⟩
    have sM : Same H J18 := sL.trans (j017.trans j18)
    -- word
    dsimp only
    unfold tNext
    dsimp only
    refine rd_setD (gv_lst (ga_cons (gv_tup (ga_cons (gv_str (s := "wish")) (ga_cons (gv_lst (ga_cons (gv_int (i := 3)) ga_nil)) (ga_cons (gv_int (i := 0)) (ga_cons (gv_int (i := 1)) ga_nil))))) ga_nil)) fun v19 H19 s19 d19 => ?_
    obtain ⟨a19, vs19, rfl, h19, x19⟩ := dx_lst d19
    have p19 : Parts H19 vs19 [.wish [3] 0 1] := dxAll_parts (t := [.wish [3] 0 1]) x19
    have ok19 : TaleOk [.wish [3] 0 1] := fewP_ok (by decide) rfl
    have s019 : Same H H19 := sM.trans s19
    have bl3 : ∀ (f : Nat → Option V) (b0 b1 b2 : Bool), f 0 = some (.bl b0) → f 1 = some (.bl b1) → f 2 = some (.bl b2) → (List.range 3).filterMap f = [b0, b1, b2].map V.bl := fun f b0 b1 b2 e0 e1 e2 => by
      show List.filterMap f [0, 1, 2] = _
      simp [e0, e1, e2]
    refine seq_if ?_
    refine ⟨by show 3 ≤ sizeLine; decide, fun tp ntp => to_new ntp fun H20 s20 htp => ⟨tp, rfl, ⟨_, SqT.of htp⟩, fun D20 nD20 => lc_pure walk_tup sqT_mono (SqT.of htp) (fun i => [V.bl false, .bl true, .bl true][i]?) nD20 (by decide) ?_ ?_⟩⟩
    · rintro i x X1 X2 hi sx ⟨rfl, hx⟩ k kn hk _
      obtain ⟨m, rfl, m1, m6, em⟩ : ∃ m : Int, x = .int m ∧ 1 ≤ m ∧ m ≤ 6 ∧ [V.bl false, .bl true, .bl true][i]? = some (.bl (decide (firstWrong m [.wish [3] 0 1] < 0))) := by
        match i, hx with
        | 0, hx => exact ⟨3, (Option.some.inj hx).symm, by decide, by decide, by rw [word_fw.1]; rfl⟩
        | 1, hx => exact ⟨4, (Option.some.inj hx).symm, by decide, by decide, by rw [word_fw.2.1]; rfl⟩
        | 2, hx => exact ⟨5, (Option.some.inj hx).symm, by decide, by decide, by rw [word_fw.2.2]; rfl⟩
      refine ⟨rfl, yes_of fun y dy ny ndy ney => to_made ny ndy fun X3 x3 hy => ?_⟩
      have z3 := s20.trans (sx.trans x3)
      exact ⟨y, dy, _, rfl, hy, rfl, _, rfl, _, rfl, y, a19, m, _, rfl, m1, m6, ⟨_, SqL.of (z3 _ _ h19), p19.mono z3, ok19⟩, fun X4 x4 => hk _ _ em (x3.trans x4)⟩
    intro H21 s21 h21
    have h21 : H21 D20 = some (.lst ([false, true, true].map V.bl)) := by rw [h21]; exact congrArg (fun l => some (HO.lst l)) (bl3 _ _ _ _ rfl rfl rfl)
    refine iE_of ⟨by show 3 ≤ sizeLine; decide, fun l22 m22 => to_new m22 fun H22 s22 h22 => ?_⟩
    refine ⟨_, _, .lst (SqL.of (s22 _ _ h21)) (dp_bls [false, true, true]), .lst (SqL.of h22) (dp_bls [false, true, true]), by decide +kernel, by decide +kernel, _, rfl, ?_⟩
    rw [show (!PyData.eqv (.list ([false, true, true].map PyData.bool)) (.list ([false, true, true].map PyData.bool))) = false by decide +kernel]
    refine iteF ?_
    have s1922 : Same H19 H22 := s20.trans (s21.trans s22)
    refine ⟨by show 3 ≤ sizeLine; decide, fun tp2 ntp2 => to_new ntp2 fun H23 s23 htp2 => ⟨tp2, rfl, ⟨_, SqT.of htp2⟩, fun D23 nD23 => lc_pure walk_tup sqT_mono (SqT.of htp2) (fun i => [V.bl true, .bl false, .bl false][i]?) nD23 (by decide) ?_ ?_⟩⟩
    · rintro i x X1 X2 hi sx ⟨rfl, hx⟩ k kn hk _
      obtain ⟨m, rfl, m1, m6, em⟩ : ∃ m : Int, x = .int m ∧ 1 ≤ m ∧ m ≤ 6 ∧ [V.bl true, .bl false, .bl false][i]? = some (.bl (decide (0 ≤ (0 : Int) ∧ firstWrong m [.wish [3] 0 1] = 0))) := by
        match i, hx with
        | 0, hx => exact ⟨3, (Option.some.inj hx).symm, by decide, by decide, by rw [word_fw.1]; rfl⟩
        | 1, hx => exact ⟨4, (Option.some.inj hx).symm, by decide, by decide, by rw [word_fw.2.1]; rfl⟩
        | 2, hx => exact ⟨5, (Option.some.inj hx).symm, by decide, by decide, by rw [word_fw.2.2]; rfl⟩
      refine ⟨rfl, yes_of fun y dy ny ndy ney => ⟨y, dy, .int 0, rfl, upd_same, fun X3 f3 hy => ⟨rfl, ?_⟩⟩⟩
      have x3 : Same _ X3 := made_same ny ndy f3
      have z3 := s1922.trans (s23.trans (sx.trans x3))
      exact ⟨y, dy, _, rfl, hy, wrF_shows _, _, rfl, _, rfl, y, dy, a19, m, 0, _, rfl, hy, m1, m6, ⟨_, SqL.of (z3 _ _ h19), p19.mono z3, ok19⟩, fun X4 x4 => hk _ _ em (x3.trans x4)⟩
    intro H24 s24 h24
    have h24 : H24 D23 = some (.lst ([true, false, false].map V.bl)) := by rw [h24]; exact congrArg (fun l => some (HO.lst l)) (bl3 _ _ _ _ rfl rfl rfl)
    refine iE_of ⟨by show 3 ≤ sizeLine; decide, fun l25 m25 => to_new m25 fun H25 s25 h25 => ?_⟩
    refine ⟨_, _, .lst (SqL.of (s25 _ _ h24)) (dp_bls [true, false, false]), .lst (SqL.of h25) (dp_bls [true, false, false]), by decide +kernel, by decide +kernel, _, rfl, ?_⟩
    rw [show (!PyData.eqv (.list ([true, false, false].map PyData.bool)) (.list ([true, false, false].map PyData.bool))) = false by decide +kernel]
    refine iteF ?_
    have s025 : Same H H25 := s019.trans (s1922.trans (s23.trans (s24.trans s25)))
    -- two hundred
    refine iE_of ⟨200, rfl, ⟨by decide, by decide, by decide, by decide, by decide⟩, fun b26 m26 => ?_⟩
    rw [show rgV 0 (200 : Int) = (upto 200).map V.int from rg0 200]
    refine to_new m26 fun H26 s26 hb26 => ⟨by show 4 ≤ sizeLine; decide, fun t27 m27 => to_new m27 fun H27 s27 ht27 => ⟨by show 1 ≤ sizeLine; decide, fun l28 m28 => to_new m28 fun H28 s28 hl28 => ?_⟩⟩
    refine ⟨4, l28, [.wish (upto 200) 0 1], rfl, by decide, by decide, ⟨_, SqL.of hl28, ⟨show PartAt H28 (.ref t27) (.wish (upto 200) 0 1) from ⟨b26, s28 _ _ ht27, s28 _ _ (s27 _ _ hb26)⟩, trivial⟩, fewP_ok (by decide) (by decide +kernel)⟩, by decide, fun H29 r29 s29 nr29 ans29 => ?_⟩
    rw [w200_fw] at ans29
    obtain ⟨_, dx29, hr29⟩ := ans29.resolve_left (fun z => by have := z.1; omega)
    have s029 : Same H H29 := s025.trans (s26.trans (s27.trans (s28.trans s29)))
    -- one list in two wishes
    refine iE_of ⟨by show 1 ≤ sizeLine; decide, fun o1 mo => to_new mo fun I0 i0 ho => ?_⟩
    refine iE_of ⟨_, rfl, by show 4 ≤ sizeLine; decide, fun t30 m30 => to_new m30 fun I1 i1 ht30 => ?_⟩
    refine ⟨by show 1 ≤ sizeLine; decide, fun b31 m31 => to_new m31 fun I2 i2 hb31 => ⟨by show 4 ≤ sizeLine; decide, fun t31 m31' => to_new m31' fun I3 i3 ht31 => ?_⟩⟩
    refine ⟨_, rfl, by show 4 ≤ sizeLine; decide, fun t32 m32 => to_new m32 fun I4 i4 ht32 => ⟨by show 3 ≤ sizeLine; decide, fun a33 m33 => to_new m33 fun I5 i5 ha33 => ?_⟩⟩
    have c1 : I5 o1 = some (.lst [V.int 0]) := i5 _ _ (i4 _ _ (i3 _ _ (i2 _ _ (i1 _ _ ho))))
    have c2 : I5 t30 = some (.tup [.str "wish", .ref o1, .int 0, .int 1]) := i5 _ _ (i4 _ _ (i3 _ _ (i2 _ _ ht30)))
    have c3 : I5 b31 = some (.lst [V.int 1]) := i5 _ _ (i4 _ _ (i3 _ _ hb31))
    have c4 : I5 t31 = some (.tup [.str "wish", .ref b31, .int 1, .int 1]) := i5 _ _ (i4 _ _ ht31)
    have c5 : I5 t32 = some (.tup [.str "wish", .ref o1, .int 2, .int 2]) := i5 _ _ ht32
    have partsT : ∀ (X : Hp) (z : Int), X o1 = some (.lst [V.int z]) → X t30 = some (.tup [.str "wish", .ref o1, .int 0, .int 1]) → X b31 = some (.lst [V.int 1]) → X t31 = some (.tup [.str "wish", .ref b31, .int 1, .int 1]) → X t32 = some (.tup [.str "wish", .ref o1, .int 2, .int 2]) →
        Parts X [.ref t30, .ref t31, .ref t32] (twiceT z) := fun X z q0 q1 q2 q3 q4 => ⟨⟨o1, q1, q0⟩, ⟨b31, q3, q2⟩, ⟨o1, q4, q0⟩, trivial⟩
    have okT : ∀ z, TaleOk (twiceT z) := fun z => fewP_ok (by show 3 ≤ 300; decide) rfl
    have n2 : t30 ≠ o1 := fun z => by rw [z, c1] at c2; cases c2
    have n3 : b31 ≠ o1 := fun z => by rw [z, c1] at c3; simp at c3
    have n4 : t31 ≠ o1 := fun z => by rw [z, c1] at c4; cases c4
    have n5 : t32 ≠ o1 := fun z => by rw [z, c1] at c5; cases c5
    have n6 : a33 ≠ o1 := fun z => by rw [z, c1] at ha33; simp at ha33
    have i05 : Same H29 I5 := i0.trans (i1.trans (i2.trans (i3.trans (i4.trans i5))))
    have hr5 := i05 _ _ hr29
    refine ⟨_, rfl, _, _, _, _, _, rfl, .own _, ty_ins hr5 T.cls_Wrong T.ic_Wrong, T.ki_Wrong_Wrong, _, rfl, iteF ?_⟩
    refine ⟨_, rfl, r29, _, dx29, _, _, rfl, hr5, T.cls_Wrong, T.na_Wrong_place, wrF_place _, rfl, _, rfl, iteF ?_⟩
    refine ⟨_, rfl, 2, a33, twiceT 0, rfl, by decide, by decide, ⟨_, SqL.of ha33, partsT I5 0 c1 c2 c3 c4 c5, okT 0⟩, by decide, fun I6 r6 i6 nr6 ans6 => ?_⟩
    rw [twice_fw.1] at ans6
    obtain ⟨_, dx6, hr6⟩ := ans6.resolve_right (fun z => by have := z.1; omega)
    refine ⟨_, _, _, _, _, rfl, .own _, ty_ins hr6 T.cls_Right T.ic_Right, T.ki_Right_Right, _, rfl, iteF ?_⟩
    -- one[0] = 1
    refine ⟨_, rfl, o1, _, _, 0, rfl, rfl, i6 _ _ c1, rfl, ?_⟩
    refine to_put fun I7 f7 h7 => ?_
    have h7 : I7 o1 = some (.lst [V.int 1]) := h7
    have e2 := f7.one n2 (i6 _ _ c2)
    have e3 := f7.one n3 (i6 _ _ c3)
    have e4 := f7.one n4 (i6 _ _ c4)
    have e5 := f7.one n5 (i6 _ _ c5)
    have e6 := f7.one n6 (i6 _ _ ha33)
    refine ⟨_, rfl, 2, a33, twiceT 1, rfl, by decide, by decide, ⟨_, SqL.of e6, partsT I7 1 h7 e2 e3 e4 e5, okT 1⟩, by decide, fun I8 r8 i8 nr8 ans8 => ?_⟩
    rw [twice_fw.2] at ans8
    obtain ⟨_, dx8, hr8⟩ := ans8.resolve_left (fun z => by have := z.1; omega)
    refine ⟨_, rfl, _, _, _, _, _, rfl, .own _, ty_ins hr8 T.cls_Wrong T.ic_Wrong, T.ki_Wrong_Wrong, _, rfl, iteF ?_⟩
    refine ⟨_, rfl, r8, _, dx8, _, _, rfl, hr8, T.cls_Wrong, T.na_Wrong_place, wrF_place _, rfl, _, rfl, iteF ?_⟩
    have rows3 : ∀ (X : Hp) (c : Addr) (z : Int), X o1 = some (.lst [V.int z]) → X c = some (.lst [V.int 0]) → Rows K X [.ref o1, .ref c, .ref o1] [[z], [0], [z]] := fun X c z q0 q1 => by
      refine ⟨rfl, fun i v e => ?_⟩
      match i, e with
      | 0, e => exact ⟨o1, (Option.some.inj e).symm, SqL.of q0⟩
      | 1, e => exact ⟨c, (Option.some.inj e).symm, SqL.of q1⟩
      | 2, e => exact ⟨o1, (Option.some.inj e).symm, SqL.of q0⟩
    refine iE_of ⟨_, rfl, by show 1 ≤ sizeLine; decide, fun c9 m9' => to_new m9' fun I9 i9 hc9 => ⟨_, rfl, by show 3 ≤ sizeLine; decide, fun l9 m9'' => to_new m9'' fun I10 i10 hl9 => ?_⟩⟩
    refine iE_of ⟨by show 3 ≤ sizeLine; decide, fun l10 m10' => to_new m10' fun I11 i11 hl10 => ?_⟩
    have i8b := i8.trans (i9.trans (i10.trans i11))
    refine ⟨l9, l10, _, [[1], [0], [1]], [0, 1, 2], rfl, SqL.of (i11 _ _ hl9), rows3 I11 c9 1 (i8b _ _ h7) (i11 _ _ (i10 _ _ hc9)), by unfold GrOk; decide +kernel, by decide, SqL.of hl10, by decide +kernel, fun I12 i12 => ?_⟩
    rw [twice_lg.1]
    refine ⟨rfl, _, rfl, iteF ?_⟩
    have i712 := i8b.trans i12
    -- one[0] = 0
    refine ⟨_, rfl, o1, _, _, 0, rfl, rfl, i712 _ _ h7, rfl, ?_⟩
    refine to_put fun I13 f13 h13 => ?_
    have h13 : I13 o1 = some (.lst [V.int 0]) := h13
    have newO : H o1 = none := s029.free mo
    have s13 : Same H I13 := Fra.back ((Fra.back ((s029.trans i05).trans i6) f7 (fun a ha => by rw [List.mem_singleton.mp ha]; exact newO)).trans i712) f13 (fun a ha => by rw [List.mem_singleton.mp ha]; exact newO)
    have g2 := f13.one n2 (i712 _ _ e2)
    have g3 := f13.one n3 (i712 _ _ e3)
    have g4 := f13.one n4 (i712 _ _ e4)
    have g5 := f13.one n5 (i712 _ _ e5)
    have g6 := f13.one n6 (i712 _ _ e6)
    refine ⟨_, rfl, 2, a33, twiceT 0, rfl, by decide, by decide, ⟨_, SqL.of g6, partsT I13 0 h13 g2 g3 g4 g5, okT 0⟩, by decide, fun I14 r14 i14 nr14 ans14 => ?_⟩
    rw [twice_fw.1] at ans14
    obtain ⟨_, dx14, hr14⟩ := ans14.resolve_right (fun z => by have := z.1; omega)
    refine ⟨_, _, _, _, _, rfl, .own _, ty_ins hr14 T.cls_Right T.ic_Right, T.ki_Right_Right, _, rfl, iteF ?_⟩
    refine iE_of ⟨_, rfl, by show 1 ≤ sizeLine; decide, fun c15 m15 => to_new m15 fun I15 i15 hc15 => ⟨_, rfl, by show 3 ≤ sizeLine; decide, fun l15 m15' => to_new m15' fun I16 i16 hl15 => ?_⟩⟩
    refine iE_of ⟨by show 3 ≤ sizeLine; decide, fun l17 m17 => to_new m17 fun I17 i17 hl17 => ?_⟩
    have i14b := i14.trans (i15.trans (i16.trans i17))
    refine ⟨l15, l17, _, [[0], [0], [0]], [0, 1, 2], rfl, SqL.of (i17 _ _ hl15), rows3 I17 c15 0 (i14b _ _ h13) (i17 _ _ (i16 _ _ hc15)), by unfold GrOk; decide +kernel, by decide, SqL.of hl17, by decide +kernel, fun I18 i18 => ?_⟩
    rw [twice_lg.2]
    refine ⟨rfl, _, rfl, iteF ?_⟩
    have s018 : Same H I18 := s13.trans (i14b.trans i18)
    -- singers that bar
    refine iE_of ⟨by show 8 ≤ sizeLine; decide, fun a40 m40 => to_new m40 fun Y0 y0 ha40 => ?_⟩
    have ha40 : Y0 a40 = some (.lst (bs8.map V.int)) := ha40
    refine iE_of ⟨by show 3 ≤ sizeLine; decide, fun l1' u1 => to_new u1 fun Y1 y1 hl1 => ⟨by show 2 ≤ sizeLine; decide, fun t1 u2 => to_new u2 fun Y2 y2 ht1 => ?_⟩⟩
    refine iE_of ⟨by show 4 ≤ sizeLine; decide, fun l2' u3 => to_new u3 fun Y3 y3 hl2 => ⟨by show 2 ≤ sizeLine; decide, fun t2 u4 => to_new u4 fun Y4 y4 ht2 => ?_⟩⟩
    refine iE_of ⟨by show 3 ≤ sizeLine; decide, fun l3' u5 => to_new u5 fun Y5 y5 hl3 => ⟨by show 2 ≤ sizeLine; decide, fun t3 u6 => to_new u6 fun Y6 y6 ht3 => ?_⟩⟩
    refine iE_of ⟨by show 2 ≤ sizeLine; decide, fun l4' u7 => to_new u7 fun Y7 y7 hl4 => ⟨by show 2 ≤ sizeLine; decide, fun t4' u8 => to_new u8 fun Y8 y8 ht4' => ?_⟩⟩
    refine ⟨by show 4 ≤ sizeLine; decide, fun tq u9 => to_new u9 fun Y9 y9 htq => ?_⟩
    have el : ∀ x ∈ [V.ref t1, .ref t2, .ref t3, .ref t4'], ∃ (t l : Addr) (ss : List Int) (b : Bool), x = .ref t ∧ Y9 t = some (.tup [.ref l, .bl b]) ∧ Y9 l = some (.lst (ss.map V.int)) ∧ barsP bs8 5 ss = b ∧ ss.length ≤ 900 := fun x hx => by
      simp only [List.mem_cons, List.not_mem_nil, or_false] at hx
      have k8 := y9
      have k7 := y8.trans k8
      have k6 := y7.trans k7
      have k5 := y6.trans k6
      have k4 := y5.trans k5
      have k3 := y4.trans k4
      have k2 := y3.trans k3
      have k1 := y2.trans k2
      rcases hx with rfl | rfl | rfl | rfl
      · exact ⟨t1, l1', [0, 2, 3], true, rfl, k2 _ _ ht1, k1 _ _ hl1, bar8.1, by decide⟩
      · exact ⟨t2, l2', [0, 1, 2, 3], false, rfl, k4 _ _ ht2, k3 _ _ hl2, bar8.2.1, by decide⟩
      · exact ⟨t3, l3', [0, 1, 2], false, rfl, k6 _ _ ht3, k5 _ _ hl3, bar8.2.2.1, by decide⟩
      · exact ⟨t4', l4', [0, 2], false, rfl, k8 _ _ ht4', k7 _ _ hl4, bar8.2.2.2, by decide⟩
    have ha49 : Y9 a40 = some (.lst (bs8.map V.int)) := y9 _ _ (y8 _ _ (y7 _ _ (y6 _ _ (y5 _ _ (y4 _ _ (y3 _ _ (y2 _ _ (y1 _ _ ha40))))))))
    have s09 : Same H Y9 := s018.trans (y0.trans (y1.trans (y2.trans (y3.trans (y4.trans (y5.trans (y6.trans (y7.trans (y8.trans y9)))))))))
    refine ⟨tq, rfl, ⟨_, SqT.of htq⟩, for_tup (K := K) (a := tq) (xs := [V.ref t1, .ref t2, .ref t3, .ref t4']) (fun i σ H' => ∃ z10 z11 : Option V, σ = [some (.ref a1), w1s, some (.ref r8), some (.ref a12), none, some (.ref a19), none, some (.ref o1), some (.ref a33), some (.ref a40), z10, z11, none, none] ∧ Same Y9 H') ?_ ?_ ?_ ?_⟩
    · exact ⟨_, _, rfl, Same.refl _⟩
    · rintro i σ G _ ⟨z10, z11, rfl, gg⟩
      exact SqT.of (gg _ _ htq)
    · rintro i v σ G hv ⟨z10, z11, rfl, gg⟩
      obtain ⟨t, l, ss, b, rfl, ht, hl, hb, hl9⟩ := el v (List.mem_of_getElem? hv)
      refine ⟨t, _, rfl, SqT.of (gg _ _ ht), rfl, _, _, rfl, _, _, rfl, rfl, ?_⟩
      refine ⟨_, rfl, fun x dx nx ndx ned => ?_⟩
      refine ⟨x, dx, l, ss.map V.int, rfl, (made_same nx ndx (Fra.refl _ _)).seq (SqL.of (gg _ _ hl)), upd_same, fun l' J1 f1 nl' hl' hx => ⟨rfl, ?_⟩⟩
      have j1 : Same G J1 := made_same nx ndx f1
      refine ⟨x, dx, _, rfl, hx, siF_shows _, _, rfl, x, l', a40, bs8, ss, 5, rfl, ⟨⟨dx, hx⟩, hl'⟩, SqL.of (j1 _ _ (gg _ _ ha49)), by decide, ⟨by decide, by decide⟩, hl9, fun J2 j2 => ?_⟩
      rw [hb]
      refine ⟨_, rfl, rfl, _, rfl, ?_⟩
      rw [show (!decide (V.bl b = V.bl b)) = false by rw [decide_eq_true rfl]; rfl]
      exact iteF ⟨_, _, rfl, gg.trans (j1.trans j2)⟩
    rintro σ G ⟨z10, z11, rfl, gg⟩
    refine ⟨_, _, rfl, rfl, ⟨by decide, by decide, by decide⟩, ?_⟩
    refine iE_of ⟨by show 1 ≤ sizeLine; decide, fun k1 v1 => to_new v1 fun Z1 zz1 hk1 => ?_⟩
    refine iE_of ⟨by show 1 ≤ sizeLine; decide, fun k2 v2 => to_new v2 fun Z2 zz2 hk2 => ?_⟩
    refine iE_of ⟨by show 2 ≤ sizeLine; decide, fun k3 v3 => to_new v3 fun Z3 zz3 hk3 => ?_⟩
    refine ⟨by show 3 ≤ sizeLine; decide, fun k4 v4 => to_new v4 fun Z4 zz4 hk4 => ?_⟩
    have el3 : ∀ (i : Nat) x, [V.ref k1, .ref k2, .ref k3][i]? = some x → ∃ (l : Addr) (ss : List Int), x = .ref l ∧ Z4 l = some (.lst (ss.map V.int)) ∧ [V.bl true, .bl false, .bl false][i]? = some (.bl (barsP [0, 0, 1] p20 ss)) ∧ ss.length ≤ 900 := fun i x e => by
      match i, e with
      | 0, e => exact ⟨k1, [0], (Option.some.inj e).symm, zz4 _ _ (zz3 _ _ (zz2 _ _ hk1)), by rw [bar3.1]; rfl, by decide⟩
      | 1, e => exact ⟨k2, [1], (Option.some.inj e).symm, zz4 _ _ (zz3 _ _ hk2), by rw [bar3.2.1]; rfl, by decide⟩
      | 2, e => exact ⟨k3, [0, 1], (Option.some.inj e).symm, zz4 _ _ hk3, by rw [bar3.2.2]; rfl, by decide⟩
    refine ⟨k4, rfl, ⟨_, SqT.of hk4⟩, fun D5 nD5 => lc_pure walk_tup sqT_mono (SqT.of hk4) (fun i => [V.bl true, .bl false, .bl false][i]?) nD5 (by show 3 ≤ 1000; decide) ?_ ?_⟩
    · rintro i x X1 X2 hi sx ⟨rfl, hx⟩ k kn hk _
      obtain ⟨l, ss, rfl, hl, hf, h9⟩ := el3 i x hx
      refine ⟨rfl, yes_of ⟨_, rfl, fun y dy ny ndy ned => ?_⟩⟩
      refine ⟨y, dy, l, ss.map V.int, rfl, (made_same ny ndy (Fra.refl _ _)).seq (SqL.of (sx _ _ hl)), upd_same, fun l' J1 f1 nl' hl' hy => ⟨rfl, ?_⟩⟩
      have j1 : Same _ J1 := made_same ny ndy f1
      refine ⟨y, dy, _, rfl, hy, siF_shows _, ?_⟩
      refine iE_of ⟨by show 3 ≤ sizeLine; decide, fun l7 m7 => to_new m7 fun J2 j2 hl7 => ?_⟩
      exact ⟨_, rfl, y, l', l7, [0, 0, 1], ss, p20, rfl, ⟨⟨dy, j2 _ _ hy⟩, j2 _ _ hl'⟩, SqL.of hl7, by decide, p20_gap, h9, fun J3 j3 => hk _ _ hf (j1.trans (j2.trans j3))⟩
    intro Z5 zz5 hD5
    have hD5 : Z5 D5 = some (.lst ([true, false, false].map V.bl)) := by rw [hD5]; exact congrArg (fun l => some (HO.lst l)) (bl3 _ _ _ _ rfl rfl rfl)
    refine ⟨_, rfl, ?_⟩
    refine iE_of ⟨by show 3 ≤ sizeLine; decide, fun l8 m8 => to_new m8 fun Z6 zz6 hl8 => ?_⟩
    refine ⟨_, _, .lst (SqL.of (zz6 _ _ hD5)) (dp_bls [true, false, false]), .lst (SqL.of hl8) (dp_bls [true, false, false]), by decide +kernel, by decide +kernel, _, rfl, ?_⟩
    rw [show PyData.eqv (.list ([true, false, false].map PyData.bool)) (.list ([true, false, false].map PyData.bool)) = true by decide +kernel]
    refine iteT ?_
    refine iE_of ⟨by show 2 ≤ sizeLine; decide, fun l9 m9 => to_new m9 fun Z7 zz7 hl9 => ?_⟩
    intro y dy ny ndy ned
    refine ⟨y, dy, l9, [V.int 1, .int 0], rfl, (made_same ny ndy (Fra.refl _ _)).seq (SqL.of hl9), upd_same, fun l' J1 f1 nl' hl' hy => ⟨rfl, ?_⟩⟩
    have j1 : Same Z7 J1 := made_same ny ndy f1
    refine ⟨y, dy, _, rfl, hy, orF_shows _, ?_⟩
    refine iE_of ⟨by show 2 ≤ sizeLine; decide, fun l10 m10 => to_new m10 fun J2 j2 hl10 => ?_⟩
    refine ⟨_, rfl, y, l', l10, [0, 1], [1, 0], p20, rfl, ⟨⟨dy, j2 _ _ hy⟩, j2 _ _ hl'⟩, SqL.of hl10, by decide, fun J3 j3 => ?_⟩
    rw [sp10]
    refine ⟨_, _, rfl, rfl, ?_⟩
    exact q J3 (s09.trans (gg.trans (zz1.trans (zz2.trans (zz3.trans (zz4.trans (zz5.trans (zz6.trans (zz7.trans (j1.trans (j2.trans j3)))))))))))
end
end Song

/-! ### H5: _law_evenings_right of k13 -/
namespace Song
open PySem L2
def ev3 : EvS := (((evNew 4).wish [0]).wish [0]).wish [1]
def bad10 : List D := [.lst [.int 0, .non], .lst [.int 0, .int 4], .lst [.int 1, .int 0], .lst [], .lst [.int 0, .int 1, .int 2, .int 3], .lst [.int 0, .int 0], .lst [.int 0, .int (-1)], .lst [.bl true], .non, .tup [.int 0]]
theorem bad10_no : ∀ d ∈ bad10, singD d 4 = false ∧ fewB d = true := by decide +kernel
def f6 : Nat → EvS
  | 0 => evNew 6
  | n + 1 => (f6 n).wish [(0 + (n : Int)) % 6]
def lg6 : Nat → EvS
  | 0 => evNew 6
  | n + 1 => if n < 23 then (lg6 n).wish [0] else lg6 n
theorem f6_can : ∀ i : Nat, i < 24 → areSingers [(0 + (i : Int)) % 6] (f6 i).last.length = true ∧ (f6 i).rounds.length < 24 ∧ (f6 i).tale.length < 900 := by decide +kernel
theorem lg6_can : ∀ i : Nat, i < 23 → areSingers [0] (lg6 i).last.length = true ∧ (lg6 i).rounds.length < 24 ∧ (lg6 i).tale.length < 900 := by decide +kernel
theorem f6_within : ∀ i : Nat, i < 24 → (0 + (i : Int)) ∈ (f6 24).waiting ∧ (f6 24).within (0 + (i : Int)) = 1 + (i : Int) := by decide +kernel
theorem f6_end : (f6 24).queue = upto 24 ∧ (f6 24).ahead 0 = [] ∧ (f6 24).ahead 23 = [] ∧ (0 : Int) ∈ (f6 24).waiting ∧ (23 : Int) ∈ (f6 24).waiting := by decide +kernel
theorem lg6_end : (lg6 24).within 22 = 24 ∧ (lg6 24).ahead 22 = [1] ∧ (lg6 24).ahead 0 = [] ∧ (22 : Int) ∈ (lg6 24).waiting ∧ (0 : Int) ∈ (lg6 24).waiting := by decide +kernel
theorem two_next : (((evNew 2).wish [0]).wish [0]).next = some 0 ∧ ((((evNew 2).wish [0]).wish [0]).sing).next = some 1 := by decide +kernel
def one5 : EvS := ((((evNew 2).wish [0]).wish [0]).sing.sing).wish [1]
def oth2 : EvS := ((evNew 2).wish [0]).wish [1]
theorem two_end : one5.going = 2 ∧ oth2.going = 1 ∧ one5.tale.length = 5 ∧ oth2.tale.length = 2 := by decide +kernel
def from1 : List Int := (List.range 24).map fun i : Nat => 1 + (i : Int)
theorem rg1 : rgV 1 25 = from1.map V.int := by decide +kernel
/-- what is no singers, of written data -/
theorem noSing_D {K : PySem.W.Frag} {H : Hp} {v : V} {d : D} {m : Int} (h : Dx H v d) (hs : singD d m = false) (hf : fewB d = true) : NoSing K H m v := by
  cases h with
  | lst h a =>
    rename_i aa vs ds
    by_cases e : ds.all wholeD = true
    · have ev := dxAll_ints a e
      rw [ev] at h
      refine .inr (.inr ⟨aa, ds.map intD, rfl, SqL.of h, by rw [List.length_map]; exact of_decide_eq_true hf, ?_⟩)
      have z : (ds.all wholeD && areSingers (ds.map intD) m) = false := hs
      rwa [e, Bool.true_and] at z
    · refine .inr (.inl ⟨aa, vs, rfl, SqL.of h, by rw [dxAll_len a]; exact of_decide_eq_true hf, dxAll_kds a, by rw [dxAll_whole a]; exact Bool.eq_false_iff.mpr e⟩)
  | non => exact .inl ⟨_, .base .non, by decide⟩
  | bl b => exact .inl ⟨_, .base (.bl b), by decide⟩
  | int i => exact .inl ⟨_, .base (.int i), by decide⟩
  | str x => exact .inl ⟨_, .base (.str x), by decide⟩
  | tup h a => exact .inl ⟨_, .base (.tup h), by decide⟩
  | dic h => exact .inl ⟨_, .base (.dK h), by decide⟩
section
variable {P : Program} {w : World} {K : PySem.W.Frag} {mg : Str → Option Value} {base : Heap}
theorem sc__law_evenings_right : FnScope ["_law_place", "_law_evening", "_law_told", "_law_bad", "_law_singers", "_law_one", "_law_other", "_law_full", "_law_long", "_law_turn", "_law_song"] ["_law_place"] (defScope s__law_evenings_right) := ⟨rfl, rfl, rfl, by decide +kernel, rfl, by decide +kernel, by decide +kernel⟩
def sp_evenings (K : PySem.W.Frag) : Sp := fun vs H Q _ => ∃ place : Int, vs = [.int place] ∧ 0 ≤ place ∧ place < 10 ∧ LamX.Tabs (TL K) H ∧ ∀ H', LamX.ExtN H H' → LamX.Tabs (TL K) H' → Q (.bl true) H'
theorem fn__law_evenings_right (T : Tx K mg) (B : ∀ p ∈ tf, LamX.TabB base mg (He.cT K p).1 (He.cT K p).2) : Fn P w K mg base "_law_evenings_right" 7 (sp_evenings K) := by
  obtain ⟨fd, F⟩ := T.d__law_evenings_right
  refine ⟨_, fd, _, okC (at_ := ("_law_evenings_right", none)) F rfl (CX := CX0) sc__law_evenings_right (fun vs H Q E h => ?_) (fun cdv hcv A outer s H vs Q E hr h => ?_), T.g__law_evenings_right, F.kp, F.bindsN fun _ _ _ _ _ _ us hl => match us, hl with | [_], _ => rfl⟩
  · obtain ⟨place, rfl, _⟩ := h; rfl
  · obtain ⟨place, rfl, p0, p1, tb, q⟩ := h
    refine ⟨_, PSs.nox (pss_cons (ps_set (i := 1) sc__law_evenings_right.nd rfl (by first | exact Or.inl rfl | exact Or.inr rfl) (pe_iMk (pe_mk (mk_Evening T) (hr.mono (by first | decide | omega)) (by rfl) (pa_cons pe_int pa_nil))))
      (pss_cons (ps_set (i := 2) sc__law_evenings_right.nd rfl (by first | exact Or.inl rfl | exact Or.inr rfl) (pe_iE (pe_lst (pa_cons (pe_iMe (pe_me (me_Evening_wish T) (hr.mono (by first | decide | omega)) (pv 1) (pa_cons (pe_lst (pa_cons pe_int pa_nil)) pa_nil))) (pa_cons (pe_iMe (pe_me (me_Evening_wish T) (hr.mono (by first | decide | omega)) (pv 1) (pa_cons (pe_lst (pa_cons pe_int pa_nil)) pa_nil))) (pa_cons (pe_iMe (pe_me (me_Evening_wish T) (hr.mono (by first | decide | omega)) (pv 1) (pa_cons (pe_lst (pa_cons pe_int pa_nil)) pa_nil))) pa_nil))))))
      (pss_cons (ps_set (i := 3) sc__law_evenings_right.nd rfl (by first | exact Or.inl rfl | exact Or.inr rfl) (pe_iE (pe_lst (pa_cons (pe_lst (pa_cons pe_int (pa_cons pe_non pa_nil))) (pa_cons (pe_lst (pa_cons pe_int (pa_cons pe_int pa_nil))) (pa_cons (pe_lst (pa_cons pe_int (pa_cons pe_int pa_nil))) (pa_cons (pe_lst pa_nil) (pa_cons (pe_lst (pa_cons pe_int (pa_cons pe_int (pa_cons pe_int (pa_cons pe_int pa_nil))))) (pa_cons (pe_lst (pa_cons pe_int (pa_cons pe_int pa_nil))) (pa_cons (pe_lst (pa_cons pe_int (pa_cons (pe_un un_neg pe_int) pa_nil))) (pa_cons (pe_lst (pa_cons pe_bl pa_nil)) (pa_cons pe_non (pa_cons (pe_tup (pa_cons pe_int pa_nil)) pa_nil)))))))))))))
      (pss_cons (ps_for PassesOwn.never rfl (show PI _ _ _ (iList K _) from pi_list (pe_op op_cat (pe_slice (show SlR _ (rSlL K) from sl_list) (pv 3) (po_some (pv 0)) po_none) (pe_slice (show SlR _ (rSlL K) from sl_list) (pv 3) po_none (po_some (pv 0))))) (pg_name (i := 4) sc__law_evenings_right.nd rfl (by first | exact Or.inl rfl | exact Or.inr rfl))
      (pss_one (ps_kin (by decide) (ps_if (pt_cmpR (show OpR _ _ (rNeD K) from op_neD hr.units) (pe_kinds (i := 1) (by decide) T (lamT T B (by decide)) rfl hcv hr (by rfl) (LamX.lamS_by (by kernel_rfl)) rfl (fun _ _ _ _ _ => rfl) (fun A outer s H E f c' hr => (pe_mex (mex_Evening_wish T) (hr.mono (by first | decide | omega)) tkLam (pv 1) (pa_cons (pv 4) pa_nil)))) (pe_fn (fn__law_due_of T) (hr.mono (by first | decide | omega)) (by rfl) (pa_cons pe_int pa_nil)) (nomark _)) (pss_one (ps_ret pe_bl)) pss_nil))))
      (pss_cons (ps_set (i := 2) sc__law_evenings_right.nd rfl (by first | exact Or.inl rfl | exact Or.inr rfl) (pe_op op_cat (pv 2) (pe_iE (pe_lst (pa_cons (pe_iMe (pe_me (me_Evening_wish T) (hr.mono (by first | decide | omega)) (pv 1) (pa_cons (pe_lst (pa_cons pe_int pa_nil)) pa_nil))) (pa_cons (pe_iMe (pe_me (me_Evening_wish T) (hr.mono (by first | decide | omega)) (pv 1) (pa_cons (pe_lst (pa_cons pe_int pa_nil)) pa_nil))) (pa_cons (pe_iMe (pe_me (me_Evening_wish T) (hr.mono (by first | decide | omega)) (pv 1) (pa_cons (pe_lst (pa_cons pe_int pa_nil)) pa_nil))) (pa_cons (pe_iMe (pe_me (me_Evening_wish T) (hr.mono (by first | decide | omega)) (pv 1) (pa_cons (pe_lst (pa_cons pe_int pa_nil)) pa_nil))) pa_nil))))))))
      (pss_cons (ps_if (pt_cmpR (show OpR _ _ (rNeD K) from op_neD hr.units) (pv 2) (pe_iE (pe_lst (pa_cons (pe_tup (pa_cons pe_int (pa_cons pe_int pa_nil))) (pa_cons (pe_tup (pa_cons pe_int (pa_cons pe_int pa_nil))) (pa_cons (pe_tup (pa_cons pe_int (pa_cons pe_int pa_nil))) (pa_cons (pe_tup (pa_cons pe_int (pa_cons pe_int pa_nil))) (pa_cons (pe_tup (pa_cons pe_int (pa_cons pe_int pa_nil))) (pa_cons (pe_tup (pa_cons pe_int (pa_cons pe_int pa_nil))) (pa_cons (pe_tup (pa_cons pe_int (pa_cons pe_int pa_nil))) pa_nil))))))))) (nomark _)) (pss_one (ps_ret pe_bl)) pss_nil)
      (pss_cons (ps_par (i := 5) (j := 6) (by rfl) sc__law_evenings_right.nd rfl rfl (by decide) rfl rfl (pa_cons (pe_iMk (pe_mk (mk_Evening T) (hr.mono (by first | decide | omega)) (by rfl) (pa_cons pe_int pa_nil))) (pa_cons (pe_iMk (pe_mk (mk_Evening T) (hr.mono (by first | decide | omega)) (by rfl) (pa_cons pe_int pa_nil))) pa_nil)) (by rfl))
      (pss_cons (ps_set (i := 2) sc__law_evenings_right.nd rfl (by first | exact Or.inl rfl | exact Or.inr rfl) (pe_iE (pe_lst (pa_cons (pe_iMe (pe_me (me_Evening_wish T) (hr.mono (by first | decide | omega)) (pv 5) (pa_cons (pe_lst (pa_cons pe_int pa_nil)) pa_nil))) (pa_cons (pe_iMe (pe_me (me_Evening_wish T) (hr.mono (by first | decide | omega)) (pv 5) (pa_cons (pe_lst (pa_cons pe_int pa_nil)) pa_nil))) (pa_cons (pe_iMe (pe_me (me_Evening_wish T) (hr.mono (by first | decide | omega)) (pv 6) (pa_cons (pe_lst (pa_cons pe_int pa_nil)) pa_nil))) (pa_cons (pe_iMe (pe_me0 (me_Evening_sing T) (hr.mono (by first | decide | omega)) (pv 5))) (pa_cons (pe_iMe (pe_me0 (me_Evening_sing T) (hr.mono (by first | decide | omega)) (pv 5))) (pa_cons (pe_iMe (pe_me (me_Evening_wish T) (hr.mono (by first | decide | omega)) (pv 6) (pa_cons (pe_lst (pa_cons pe_int pa_nil)) pa_nil))) (pa_cons (pe_iMe (pe_me (me_Evening_wish T) (hr.mono (by first | decide | omega)) (pv 5) (pa_cons (pe_lst (pa_cons pe_int pa_nil)) pa_nil))) pa_nil))))))))))
      (pss_cons (ps_if (pt_cmpR (show OpR _ _ (rNeD K) from op_neD hr.units) (pv 2) (pe_iE (pe_lst (pa_cons (pe_tup (pa_cons pe_int (pa_cons pe_int pa_nil))) (pa_cons (pe_tup (pa_cons pe_int (pa_cons pe_int pa_nil))) (pa_cons (pe_tup (pa_cons pe_int (pa_cons pe_int pa_nil))) (pa_cons pe_int (pa_cons pe_int (pa_cons (pe_tup (pa_cons pe_int (pa_cons pe_int pa_nil))) (pa_cons (pe_tup (pa_cons pe_int (pa_cons pe_int pa_nil))) pa_nil))))))))) (nomark _)) (pss_one (ps_ret pe_bl)) pss_nil)
      (pss_cons (ps_if (pt_cmpR (show OpR _ _ (rNeD K) from op_neD hr.units) (pe_iE (pe_lst (pa_cons (pe_iMe (pe_me0 (me_Evening_round_now T) (hr.mono (by first | decide | omega)) (pv 5))) (pa_cons (pe_iMe (pe_me0 (me_Evening_round_now T) (hr.mono (by first | decide | omega)) (pv 6))) (pa_cons (pe_callB (show CallR _ _ (rLenQ K) from call_len_seq) (by rfl) T.len (by decide +kernel) (pa_cons (pe_iMe (pe_me0 (me_Evening_tale T) (hr.mono (by first | decide | omega)) (pv 5))) pa_nil)) (pa_cons (pe_callB (show CallR _ _ (rLenQ K) from call_len_seq) (by rfl) T.len (by decide +kernel) (pa_cons (pe_iMe (pe_me0 (me_Evening_tale T) (hr.mono (by first | decide | omega)) (pv 6))) pa_nil)) pa_nil)))))) (pe_iE (pe_lst (pa_cons pe_int (pa_cons pe_int (pa_cons pe_int (pa_cons pe_int pa_nil)))))) (nomark _)) (pss_one (ps_ret pe_bl)) pss_nil)
      (pss_cons (ps_asg (pe_tup (pa_cons (pe_iMk (pe_mk (mk_Evening T) (hr.mono (by first | decide | omega)) (by rfl) (pa_cons pe_int pa_nil))) (pa_cons (pe_iMk (pe_mk (mk_Evening T) (hr.mono (by first | decide | omega)) (by rfl) (pa_cons pe_int pa_nil))) pa_nil))) (show PG _ _ (gTup K _ _) from pg_tup rfl (pgs_cons (pg_name (i := 7) sc__law_evenings_right.nd rfl (by first | exact Or.inl rfl | exact Or.inr rfl)) (pgs_cons (pg_name (i := 8) sc__law_evenings_right.nd rfl (by first | exact Or.inl rfl | exact Or.inr rfl)) pgs_nil))))
      (pss_cons (ps_for PassesOwn.never rfl (pi_range1 (by rfl) T.range (pa_cons pe_int pa_nil)) (pg_name (i := 9) sc__law_evenings_right.nd rfl (by first | exact Or.inl rfl | exact Or.inr rfl))
      (pss_cons (ps_expr (pe_iMe (pe_me (me_Evening_wish T) (hr.mono (by first | decide | omega)) (pv 7) (pa_cons (pe_iE (pe_lst (pa_cons (pe_op op_mod (pv 9) pe_int) pa_nil))) pa_nil))))
      (pss_one (ps_if (pt_cmpR op_lt (pv 9) pe_int (nomark _)) (pss_one (ps_expr (pe_iMe (pe_me (me_Evening_wish T) (hr.mono (by first | decide | omega)) (pv 8) (pa_cons (pe_iE (pe_lst (pa_cons pe_int pa_nil))) pa_nil))))) pss_nil))))
      (pss_cons (ps_if (pt_cmpR (show OpR _ _ (rNeD K) from op_neD hr.units) (pe_lc (own := [("_law_song", 10)]) (g := (gName 10)) (tt := tYes) (by rfl) sc__law_evenings_right.nd (pi_range1 (by rfl) T.range (pa_cons pe_int pa_nil)) (blkOk_by (by kernel_rfl)) (fun _ _ _ _ _ => (pg_name (i := 10) sc__law_evenings_right.nd rfl (by first | exact Or.inl rfl | exact Or.inr rfl))) (fun _ _ _ _ _ => pts_nil) (fun _ _ _ _ _ => (pe_iMe (pe_me (me_Evening_within T) (hr.mono (by first | decide | omega)) (pv 7) (pa_cons (pv 10) pa_nil))))) (pe_listRg (by rfl) (by rfl) T.list (prg_2 (by rfl) T.range pe_int pe_int)) (nomark _)) (pss_one (ps_ret pe_bl)) pss_nil)
      (pss_cons (ps_set (i := 2) sc__law_evenings_right.nd rfl (by first | exact Or.inl rfl | exact Or.inr rfl) (pe_iE (pe_lst (pa_cons (pe_iMe (pe_me (me_Evening_worst T) (hr.mono (by first | decide | omega)) (pv 7) (pa_cons pe_int pa_nil))) (pa_cons (pe_iMe (pe_me (me_Evening_worst T) (hr.mono (by first | decide | omega)) (pv 7) (pa_cons pe_int pa_nil))) (pa_cons (pe_iMe (pe_me (me_Evening_within T) (hr.mono (by first | decide | omega)) (pv 8) (pa_cons pe_int pa_nil))) (pa_cons (pe_iMe (pe_me (me_Evening_worst T) (hr.mono (by first | decide | omega)) (pv 8) (pa_cons pe_int pa_nil))) (pa_cons (pe_iMe (pe_me (me_Evening_worst T) (hr.mono (by first | decide | omega)) (pv 8) (pa_cons pe_int pa_nil))) pa_nil))))))))
      (pss_cons (ps_if (pt_cmpR (show OpR _ _ (rNeD K) from op_neD hr.units) (pv 2) (pe_iE (pe_lst (pa_cons (pe_lst pa_nil) (pa_cons (pe_lst pa_nil) (pa_cons pe_int (pa_cons (pe_lst (pa_cons (pe_lst (pa_cons pe_int pa_nil)) pa_nil)) (pa_cons (pe_lst pa_nil) pa_nil))))))) (nomark _)) (pss_one (ps_ret pe_bl)) pss_nil)
      (pss_one (ps_ret (pe_cmpR (show OpR _ _ (rEqD K) from op_eqD hr.units) (pe_iMe (pe_me0 (me_Evening_waits T) (hr.mono (by first | decide | omega)) (pv 7))) (pe_listRg (by rfl) (by rfl) T.list (prg_1 (by rfl) T.range pe_int)) (nomark _))))))))))))))))))), ?_⟩
    refine rd_set0 ?_
    refine rd_new (n := 4) (by decide) (by decide) fun G1 p A' g1 e1 new1 => ?_
    refine rd_set0 (iE_of ?_)
    refine rd_wish (ss := [0]) rfl e1 (by decide +kernel) (by decide +kernel) (by decide +kernel) fun G2 t2 f2 e2 nt2 ht2 => ?_
    refine rd_wish (ss := [0]) rfl e2 (by decide +kernel) (by decide +kernel) (by decide +kernel) fun G3 t3 f3 e3 nt3 ht3 => ?_
    refine rd_wish (ss := [1]) rfl e3 (by decide +kernel) (by decide +kernel) (by decide +kernel) fun G4 t4 f4 e4 nt4 ht4 => ?_
    refine ⟨by show 3 ≤ sizeLine; decide, fun a5 n5 => to_new n5 fun G5 g5 h5 => ?_⟩
    have o2 : t2 ∉ own p A' := e1.out_of nt2
    have o3 : t3 ∉ own p A' := e2.out_of nt3
    have o4 : t4 ∉ own p A' := e3.out_of nt4
    have o5 : a5 ∉ own p A' := e4.out_of n5
    have k2 : G5 t2 = _ := g5 _ _ (f4 _ _ o2 (f3 _ _ o2 ht2))
    have k3 : G5 t3 = _ := g5 _ _ (f4 _ _ o3 ht3)
    have k4 : G5 t4 = _ := g5 _ _ ht4
    have e5 : EvA K G5 p A' ev3 := e4.mono g5
    have t5 : LamX.Tabs (TL K) G5 := (tabs_fra (tabs_fra (tabs_fra (tb.ext g1) e1 f2) e2 f3) e3 f4).ext g5
    have s5 : Same H G5 := (Fra.back g1 ((f2.trans f3).trans f4) new1).trans g5
    refine rd_setD (gv_lst (ga_cons (gv_lst (ga_cons (gv_int (i := 0)) (ga_cons gv_non ga_nil))) (ga_cons (gv_lst (ga_cons (gv_int (i := 0)) (ga_cons (gv_int (i := 4)) ga_nil))) (ga_cons (gv_lst (ga_cons (gv_int (i := 1)) (ga_cons (gv_int (i := 0)) ga_nil))) (ga_cons (gv_lst ga_nil) (ga_cons (gv_lst (ga_cons (gv_int (i := 0)) (ga_cons (gv_int (i := 1)) (ga_cons (gv_int (i := 2)) (ga_cons (gv_int (i := 3)) ga_nil))))) (ga_cons (gv_lst (ga_cons (gv_int (i := 0)) (ga_cons (gv_int (i := 0)) ga_nil))) (ga_cons (gv_lst (ga_cons (gv_int (i := 0)) (ga_cons (gv_num (n := -1) (fun H Q h => ⟨_, rfl, h⟩)) ga_nil))) (ga_cons (gv_lst (ga_cons (gv_bl (b := true)) ga_nil)) (ga_cons gv_non (ga_cons (gv_tup (ga_cons (gv_int (i := 0)) ga_nil)) ga_nil))))))))))) fun v6 G6 g6 d6 => ?_
    obtain ⟨a6, vs6, rfl, h6, x6⟩ := dx_lst d6
    have l6 := dxAll_len x6
    refine ⟨_, rfl, _, rfl, _, rfl, a6, _, rfl, SqL.of h6, fun b7 n7 => to_new n7 fun G7 g7 h7 => ?_⟩
    refine ⟨_, rfl, _, rfl, _, rfl, a6, _, rfl, SqL.of (g7 _ _ h6), fun b8 n8 => to_new n8 fun G8 g8 h8 => ?_⟩
    have cutM : ∀ (x y : Option Int), (∀ v ∈ cutV vs6 x y, v ∈ vs6) ∧ (cutV vs6 x y).length ≤ 10 := fun x y => by
      unfold cutV
      refine ⟨fun v hv => List.mem_of_mem_drop (List.mem_of_mem_take hv), ?_⟩
      rw [List.length_take, List.length_drop]
      have : vs6.length = 10 := l6
      omega
    refine ⟨b7, b8, _, _, rfl, rfl, g8 _ _ h7, h8, by have := (cutM (some place) none).2; have := (cutM none (some place)).2; exact Nat.le_of_lt (Nat.lt_of_le_of_lt (by omega : _ ≤ 20) (by decide)), fun a9 n9 => to_new n9 fun G9 g9 h9 => ?_⟩
    have g59 : Same G5 G9 := g6.trans (g7.trans (g8.trans g9))
    have bad9 : ∀ v ∈ cutV vs6 (some place) none ++ cutV vs6 none (some place), NoSing K (nt G9) 4 v := fun v hv => by
      have hm : v ∈ vs6 := by
        rcases List.mem_append.mp hv with z | z
        · exact (cutM _ _).1 v z
        · exact (cutM _ _).1 v z
      obtain ⟨i, hi, rfl⟩ := List.mem_iff_getElem.mp hm
      obtain ⟨d, hd, hx⟩ := dxAll_get x6 (List.getElem?_eq_getElem hi)
      obtain ⟨b1, b2⟩ := bad10_no d (List.mem_of_getElem? hd)
      exact noSing_D (dx_nt (dx_mono (g7.trans (g8.trans g9)) hx)) b1 b2
    have eN : EvA K (nt G9) p A' ev3 := (e5.mono g59).nt
    have t9 : LamX.Tabs (TL K) G9 := t5.ext g59
    refine ⟨a9, rfl, ⟨_, SqL.of h9⟩, for_list (K := K) (a := a9) (xs := cutV vs6 (some place) none ++ cutV vs6 none (some place)) (fun i σ H' => ∃ x4 : Option V, σ = [some (.int place), some (.ref p), some (.ref a5), some (.ref a6), x4, none, none, none, none, none, none] ∧ LamX.ExtN G9 H' ∧ LamX.Tabs (TL K) H') ?_ ?_ ?_ ?_⟩
    · exact ⟨_, rfl, LamX.ExtN.refl _, t9⟩
    · rintro i σ G _ ⟨x1, rfl, g, _⟩
      exact SqL.of (g _ _ h9 fun _ z => by cases z)
    · rintro i v σ U hv ⟨x4, rfl, u, tU⟩
      have hv' := bad9 v (List.mem_of_getElem? hv)
      refine ⟨tU, fun U1 u1 t1 E Q' hE => ?_⟩
      have sU1 : Same (nt G9) U1 := same_ext (NT.nt G9) (nt_le G9) (u.trans u1)
      refine rd_wishX rfl rfl (eN.mono sU1) (hv'.mono sU1) fun U2 u2 => hE _ fun U3 u3 => ?_
      exact ⟨_, rfl, (u.trans u1).trans (LamX.ExtN.of (u2.trans u3)), t1.ext (u2.trans u3)⟩
    rintro σ U ⟨x4, rfl, u, tU⟩
    have sU : Same (nt G9) U := same_ext (NT.nt G9) (nt_le G9) u
    have eU : EvA K U p A' ev3 := eN.mono sU
    have keep : ∀ {b : Addr} {o : HO}, G5 b = some o → (∀ ps, o ≠ .tbl ps) → U b = some o := fun h n => sU _ _ (nt_of (g59 _ _ h) n)
    have k2U := keep k2 (fun _ z => by cases z)
    have k3U := keep k3 (fun _ z => by cases z)
    have k4U := keep k4 (fun _ z => by cases z)
    have k5U := keep h5 (fun _ z => by cases z)
    have exU : LamX.ExtN H U := (LamX.ExtN.of (s5.trans g59)).trans u
    refine ⟨_, rfl, iE_of ?_⟩
    refine rd_wish (ss := [0]) rfl eU (by decide +kernel) (by decide +kernel) (by decide +kernel) fun U1 w1 v1 z1 nw1 hw1 => ?_
    refine rd_wish (ss := [3]) rfl z1 (by decide +kernel) (by decide +kernel) (by decide +kernel) fun U2 w2 v2 z2 nw2 hw2 => ?_
    refine rd_wish (ss := [1]) rfl z2 (by decide +kernel) (by decide +kernel) (by decide +kernel) fun U3 w3 v3 z3 nw3 hw3 => ?_
    refine rd_wish (ss := [2]) rfl z3 (by decide +kernel) (by decide +kernel) (by decide +kernel) fun U4 w4 v4 z4 nw4 hw4 => ?_
    refine ⟨by show 4 ≤ sizeLine; decide, fun a10 n10 => to_new n10 fun U5 u5 h10 => ?_⟩
    have fv := ((v1.trans v2).trans v3).trans v4
    have q2 := u5 _ _ (fv _ _ o2 k2U)
    have q3 := u5 _ _ (fv _ _ o3 k3U)
    have q4 := u5 _ _ (fv _ _ o4 k4U)
    have q5 := u5 _ _ (fv _ _ o5 k5U)
    have r1 := u5 _ _ (v4 _ _ (eU.out_of nw1) (v3 _ _ (eU.out_of nw1) (v2 _ _ (eU.out_of nw1) hw1)))
    have r2 := u5 _ _ (v4 _ _ (z1.out_of nw2) (v3 _ _ (z1.out_of nw2) hw2))
    have r3 := u5 _ _ (v4 _ _ (z2.out_of nw3) hw3)
    have r4 := u5 _ _ hw4
    refine ⟨a5, a10, _, _, rfl, rfl, q5, h10, by show 3 + 4 ≤ sizeLine; decide, fun a11 n11 => to_new n11 fun U6 u6 h11 => ?_⟩
    have tU6 : LamX.Tabs (TL K) U6 := (tabs_fra (tabs_fra (tabs_fra (tabs_fra tU eU v1) z1 v2) z2 v3) z3 v4).ext (u5.trans u6)

    have exU6 : LamX.ExtN H U6 := (ext_fra exU fv new1).trans (LamX.ExtN.of (u5.trans u6))
    have pr : ∀ {X : Hp} {t : Addr} {a b : Int}, X t = some (.tup [.int a, .int b]) → Dx X (.ref t) (.tup [.int a, .int b]) := fun h => .tup h (.cons (.int _) (.cons (.int _) .nil))
    have dT : Dx U6 (.ref a11) (.lst [.tup [.int 0, .int 1], .tup [.int 1, .int 2], .tup [.int 2, .int 1], .tup [.int 3, .int 3], .tup [.int 4, .int 1], .tup [.int 5, .int 2], .tup [.int 6, .int 1]]) :=
      .lst h11 (.cons (pr (u6 _ _ q2)) (.cons (pr (u6 _ _ q3)) (.cons (pr (u6 _ _ q4)) (.cons (pr (u6 _ _ r1)) (.cons (pr (u6 _ _ r2)) (.cons (pr (u6 _ _ r3)) (.cons (pr (u6 _ _ r4)) .nil)))))))
    refine ⟨_, rfl, ?_⟩
    refine rd_dat (gv_lst (ga_cons (gv_tup (ga_cons (gv_int (i := 0)) (ga_cons (gv_int (i := 1)) ga_nil))) (ga_cons (gv_tup (ga_cons (gv_int (i := 1)) (ga_cons (gv_int (i := 2)) ga_nil))) (ga_cons (gv_tup (ga_cons (gv_int (i := 2)) (ga_cons (gv_int (i := 1)) ga_nil))) (ga_cons (gv_tup (ga_cons (gv_int (i := 3)) (ga_cons (gv_int (i := 3)) ga_nil))) (ga_cons (gv_tup (ga_cons (gv_int (i := 4)) (ga_cons (gv_int (i := 1)) ga_nil))) (ga_cons (gv_tup (ga_cons (gv_int (i := 5)) (ga_cons (gv_int (i := 2)) ga_nil))) (ga_cons (gv_tup (ga_cons (gv_int (i := 6)) (ga_cons (gv_int (i := 1)) ga_nil))) ga_nil)))))))) fun v12 U7 u7 d12 => ?_
    refine ⟨_, _, dx_dp (dx_mono u7 dT) (by decide +kernel), dx_dp d12 (by decide +kernel), by decide +kernel, by decide +kernel, _, rfl, ?_⟩
    rw [show (!PyData.eqv (toPy (.lst [.tup [.int 0, .int 1], .tup [.int 1, .int 2], .tup [.int 2, .int 1], .tup [.int 3, .int 3], .tup [.int 4, .int 1], .tup [.int 5, .int 2], .tup [.int 6, .int 1]])) (toPy (.lst [.tup [.int 0, .int 1], .tup [.int 1, .int 2], .tup [.int 2, .int 1], .tup [.int 3, .int 3], .tup [.int 4, .int 1], .tup [.int 5, .int 2], .tup [.int 6, .int 1]]))) = false by decide +kernel]
    refine iteF ?_
    have exU7 : LamX.ExtN H U7 := exU6.trans (LamX.ExtN.of u7)
    have tU7 : LamX.Tabs (TL K) U7 := tU6.ext u7
    -- two by turns
    refine rd_new (n := 2) (by decide) (by decide) fun M1 p1' A1 m1 ea new1' => ?_
    refine rd_new (n := 2) (by decide) (by decide) fun M2 p2' A2 m2 eb new2' => ?_
    refine ⟨_, _, rfl, ?_⟩
    have du0 : Duo K M2 p1' A1 (evNew 2) p2' A2 (evNew 2) := Duo.new ea m2 eb new2'
    refine iE_of ?_
    refine rd_wish (ss := [0]) rfl du0.a (by decide +kernel) (by decide +kernel) (by decide +kernel) fun M3 c1 f1 x1 nc1 hc1 => ?_
    have du1 := du0.left f1 x1
    refine rd_wish (ss := [0]) rfl du1.a (by decide +kernel) (by decide +kernel) (by decide +kernel) fun M4 c2 f2' x2 nc2 hc2 => ?_
    have du2 := du1.left f2' x2
    refine rd_wish (ss := [0]) rfl du2.b (by decide +kernel) (by decide +kernel) (by decide +kernel) fun M5 c3 f3' x3 nc3 hc3 => ?_
    have du3 := du2.right f3' x3
    refine rd_sing rfl du3.a (by decide +kernel) fun M6 f4' x4' => ?_
    have du4 := du3.left f4' x4'
    refine rd_sing rfl du4.a (by decide +kernel) fun M7 f5' x5' => ?_
    have du5 := du4.left f5' x5'
    refine rd_wish (ss := [1]) rfl du5.b (by decide +kernel) (by decide +kernel) (by decide +kernel) fun M8 c6 f6' x6' nc6 hc6 => ?_
    have du6 := du5.right f6' x6'
    refine rd_wish (ss := [1]) rfl du6.a (by decide +kernel) (by decide +kernel) (by decide +kernel) fun M9 c7 f7' x7' nc7 hc7 => ?_
    have du7 := du6.left f7' x7'
    refine ⟨by show 7 ≤ sizeLine; decide, fun a13 n13 => to_new n13 fun M10 m10 h13 => ?_⟩
    have oA : ∀ {X : Hp} {s1 s2 : EvS} {t : Addr}, Duo K X p1' A1 s1 p2' A2 s2 → X t = none → t ∉ own p1' A1 ∧ t ∉ own p2' A2 := fun du n => ⟨du.a.out_of n, du.b.out_of n⟩
    obtain ⟨i1, i1'⟩ := oA du0 nc1
    obtain ⟨i2, i2'⟩ := oA du1 nc2
    obtain ⟨i3, i3'⟩ := oA du2 nc3
    obtain ⟨i6, i6'⟩ := oA du5 nc6
    have w1' := m10 _ _ (f7' _ _ i1 (f6' _ _ i1' (f5' _ _ i1 (f4' _ _ i1 (f3' _ _ i1' (f2' _ _ i1 hc1))))))
    have w2' := m10 _ _ (f7' _ _ i2 (f6' _ _ i2' (f5' _ _ i2 (f4' _ _ i2 (f3' _ _ i2' hc2)))))
    have w3' := m10 _ _ (f7' _ _ i3 (f6' _ _ i3' (f5' _ _ i3 (f4' _ _ i3 hc3))))
    have w6' := m10 _ _ (f7' _ _ i6 hc6)
    have w7' := m10 _ _ hc7
    have dT2 : Dx M10 (.ref a13) (.lst [.tup [.int 0, .int 1], .tup [.int 1, .int 2], .tup [.int 0, .int 1], .int 0, .int 1, .tup [.int 1, .int 1], .tup [.int 2, .int 2]]) :=
      .lst h13 (.cons (pr w1') (.cons (pr w2') (.cons (pr w3') (.cons (by rw [two_next.1]; exact .int 0) (.cons (by rw [two_next.2]; exact .int 1) (.cons (pr w6') (.cons (pr w7') .nil)))))))
    refine ⟨_, rfl, ?_⟩
    refine rd_dat (gv_lst (ga_cons (gv_tup (ga_cons (gv_int (i := 0)) (ga_cons (gv_int (i := 1)) ga_nil))) (ga_cons (gv_tup (ga_cons (gv_int (i := 1)) (ga_cons (gv_int (i := 2)) ga_nil))) (ga_cons (gv_tup (ga_cons (gv_int (i := 0)) (ga_cons (gv_int (i := 1)) ga_nil))) (ga_cons (gv_int (i := 0)) (ga_cons (gv_int (i := 1)) (ga_cons (gv_tup (ga_cons (gv_int (i := 1)) (ga_cons (gv_int (i := 1)) ga_nil))) (ga_cons (gv_tup (ga_cons (gv_int (i := 2)) (ga_cons (gv_int (i := 2)) ga_nil))) ga_nil)))))))) fun v14 M11 m11 d14 => ?_
    refine ⟨_, _, dx_dp (dx_mono m11 dT2) (by decide +kernel), dx_dp d14 (by decide +kernel), by decide +kernel, by decide +kernel, _, rfl, ?_⟩
    rw [show (!PyData.eqv (toPy (.lst [.tup [.int 0, .int 1], .tup [.int 1, .int 2], .tup [.int 0, .int 1], .int 0, .int 1, .tup [.int 1, .int 1], .tup [.int 2, .int 2]])) (toPy (.lst [.tup [.int 0, .int 1], .tup [.int 1, .int 2], .tup [.int 0, .int 1], .int 0, .int 1, .tup [.int 1, .int 1], .tup [.int 2, .int 2]]))) = false by decide +kernel]
    refine iteF ?_
    have du8 : Duo K M11 p1' A1 one5 p2' A2 oth2 := du7.mono (m10.trans m11)
    refine iE_of ?_
    refine rd_now rfl du8.a ?_
    rw [two_end.1]
    refine rd_now rfl du8.b ?_
    rw [two_end.2.1]
    refine rd_tale rfl du8.a fun l15 M12 cs15 nl15 m12 hl15 lc15 _ => ⟨l15, _, rfl, .inl (SqL.of hl15), ?_⟩
    rw [lc15, two_end.2.2.1]
    have du9 := du8.mono m12
    refine rd_tale rfl du9.b fun l16 M13 cs16 nl16 m13 hl16 lc16 _ => ⟨l16, _, rfl, .inl (SqL.of hl16), ?_⟩
    rw [lc16, two_end.2.2.2]
    refine ⟨by show 4 ≤ sizeLine; decide, fun a17 n17 => to_new n17 fun M14 m14 h17 => ?_⟩
    have h17 : M14 a17 = some (.lst ([2, 1, 5, 2].map V.int)) := h17
    refine rd_dat (d := intsD [2, 1, 5, 2]) (gv_lst (ga_cons (gv_int (i := 2)) (ga_cons (gv_int (i := 1)) (ga_cons (gv_int (i := 5)) (ga_cons (gv_int (i := 2)) ga_nil))))) fun v18 M15 m15 d18 => ?_
    obtain ⟨a18, rfl, h18⟩ := dx_ints d18
    refine ⟨_, _, dp_ints (SqL.of (m15 _ _ h17)), dp_ints (SqL.of h18), (shp_ints _).ok, (shp_ints _).ok, _, rfl, ?_⟩
    rw [eqv_ints]
    refine iteF ?_
    have fM : Same U7 M9 := by
      have z1 : Same U7 M2 := m1.trans m2
      have fr : Fra (own p1' A1 ++ own p2' A2) M2 M9 := by
        have l : ∀ x ∈ own p1' A1, x ∈ own p1' A1 ++ own p2' A2 := fun x h => List.mem_append_left _ h
        have r : ∀ x ∈ own p2' A2, x ∈ own p1' A1 ++ own p2' A2 := fun x h => List.mem_append_right _ h
        exact (((((f1.mono l).trans (f2'.mono l)).trans (f3'.mono r)).trans (f4'.mono l)).trans (f5'.mono l)).trans ((f6'.mono r).trans (f7'.mono l))
      refine Fra.back z1 fr fun x hx => ?_
      rcases List.mem_append.mp hx with h | h
      · exact new1' x h
      · exact m1.free (new2' x h)
    have sM : Same U7 M15 := fM.trans (m10.trans (m11.trans (m12.trans (m13.trans (m14.trans m15)))))
    have tM9 : LamX.Tabs (TL K) M9 := tabs_fra (tabs_fra (tabs_fra (tabs_fra (tabs_fra (tabs_fra (tabs_fra (tU7.ext (m1.trans m2)) du0.a f1) du1.a f2') du2.b f3') du3.a f4') du4.a f5') du5.b f6') du6.a f7'
    have tM : LamX.Tabs (TL K) M15 := tM9.ext (m10.trans (m11.trans (m12.trans (m13.trans (m14.trans m15)))))
    have exM : LamX.ExtN H M15 := exU7.trans (LamX.ExtN.of sM)
    -- full ones
    refine rd_new (n := 6) (by decide) (by decide) fun N1 pf Af n1' ef newf => ?_
    refine rd_new (n := 6) (by decide) (by decide) fun N2 pg Ag n2' eg newg => ?_
    refine ⟨by show 2 ≤ sizeLine; decide, fun t19 nt19 => to_new nt19 fun N3 n3' ht19 => ⟨t19, _, rfl, SqT.of ht19, rfl, _, _, rfl, _, _, rfl, rfl, ?_⟩⟩
    have dv0 : Duo K N3 pf Af (f6 0) pg Ag (lg6 0) := (Duo.new ef n2' eg newg).mono n3'
    have nS : ∀ x ∈ own pf Af ++ own pg Ag, M15 x = none := fun x hx => by
      rcases List.mem_append.mp hx with h | h
      · exact newf x h
      · exact n1'.free (newg x h)
    have sN : Same M15 N3 := n1'.trans (n2'.trans n3')
    refine ⟨24, rfl, by decide, by decide, for_range (lo := 0) (fun i σ H' => ∃ x9 : Option V, σ = [some (.int place), some (.ref p), some (.ref a13), some (.ref a6), x4, some (.ref p1'), some (.ref p2'), some (.ref pf), some (.ref pg), x9, none] ∧ Fra (own pf Af ++ own pg Ag) N3 H' ∧ Duo K H' pf Af (f6 i) pg Ag (lg6 i) ∧ LamX.Tabs (TL K) H') ?_ ?_ ?_⟩
    · exact ⟨_, rfl, Fra.refl _ _, dv0, tM.ext sN⟩
    · rintro i σ W hi ⟨x9, rfl, f, du, t⟩
      obtain ⟨c1, c2, c3⟩ := f6_can i hi
      refine rd_wishE (ss := [(0 + (i : Int)) % 6]) rfl du.a c1 c2 c3 (fun W1 _ f1 x1 _ _ => ?_) (fun R h => ⟨_, rfl, _, _, rfl, rfl, (show (0 : Int) < 6 by decide), h⟩)
      have du1 := du.left f1 x1
      have t1 := tabs_fra t du.a f1
      have fa := f.trans (f1.mono (fun x h => List.mem_append_left (own pg Ag) h))
      refine ⟨_, rfl, _, _, rfl, rfl, _, rfl, ?_⟩
      by_cases h23 : i < 23
      · rw [decide_eq_true (show (0 + (i : Int)) < 23 by omega)]
        refine iteT ?_
        obtain ⟨d1, d2, d3⟩ := lg6_can i h23
        refine rd_wishE (ss := [0]) rfl du1.b d1 d2 d3 fun W2 _ f2 x2 _ _ => ?_
        have du2 := du1.right f2 x2
        refine ⟨_, rfl, fa.trans (f2.mono (fun x h => List.mem_append_right (own pf Af) h)), ?_, tabs_fra t1 du1.b f2⟩
        have el : lg6 (i + 1) = (lg6 i).wish [0] := by show (if i < 23 then _ else _) = _; rw [if_pos h23]
        rw [el]
        exact du2
      · rw [decide_eq_false (show ¬ (0 + (i : Int)) < 23 by omega)]
        refine iteF ⟨_, rfl, fa, ?_, t1⟩
        have el : lg6 (i + 1) = lg6 i := by show (if i < 23 then _ else _) = _; rw [if_neg h23]
        rw [el]
        exact du1
    rintro σ W ⟨x9, rfl, fW, dW, tW⟩
    have dW : Duo K W pf Af (f6 24) pg Ag (lg6 24) := dW
    have sW : Same M15 W := Fra.back sN fW nS
    have exW : LamX.ExtN H W := exM.trans (LamX.ExtN.of sW)
    obtain ⟨fe1, fe2, fe3, fe4, fe5⟩ := f6_end
    obtain ⟨ge1, ge2, ge3, ge4, ge5⟩ := lg6_end
    refine ⟨24, rfl, by decide, by decide, fun D20 nD20 => lc_pure walk_range (fun _ _ _ h => h) trivial (fun j => some (.int (1 + (j : Int)))) nD20 (by decide) ?_ ?_⟩
    · rintro j v X1 X2 hj sx ⟨rfl, rfl⟩ k kn hk _
      obtain ⟨w1, w2⟩ := f6_within j hj
      refine ⟨rfl, yes_of ?_⟩
      refine rd_within (n := 0 + (j : Int)) rfl (dW.a.mono sx) w1 (fun X3 x3 => ?_) (fun R h => ⟨_, rfl, h⟩)
      rw [w2]
      exact hk _ _ rfl x3
    intro W1 w1 h20
    have h20 : W1 D20 = some (.lst (from1.map V.int)) := by rw [h20]; exact congrArg (fun l => some (HO.lst l)) (by decide +kernel)
    refine ⟨1, 25, rfl, rfl, ⟨by decide, by decide, by decide, by decide, by decide⟩, fun a21 n21 => ?_⟩
    rw [rg1]
    refine to_new n21 fun W2 w2 h21 => ?_
    refine ⟨_, _, dp_ints (SqL.of (w2 _ _ h20)), dp_ints (SqL.of h21), (shp_ints _).ok, (shp_ints _).ok, _, rfl, ?_⟩
    rw [eqv_ints]
    refine iteF ?_
    have d2 := dW.mono (w1.trans w2)
    refine iE_of ?_
    refine rd_worst (n := 0) rfl d2.a fe4 fun l22 W3 cs22 n22 w3 h22 lc22 _ => ?_
    rw [fe2] at lc22
    obtain rfl := List.eq_nil_of_length_eq_zero lc22
    have d3 := d2.mono w3
    refine rd_worst (n := 23) rfl d3.a fe5 fun l23 W4 cs23 n23 w4 h23 lc23 _ => ?_
    rw [fe3] at lc23
    obtain rfl := List.eq_nil_of_length_eq_zero lc23
    have d4 := d3.mono w4
    refine rd_within (n := 22) rfl d4.b ge4 fun W5 w5 => ?_
    rw [ge1]
    have d5 := d4.mono w5
    refine rd_worst (n := 22) rfl d5.b ge4 fun l24 W6 cs24 n24 w6 h24 lc24 hc24 => ?_
    rw [ge2] at lc24 hc24
    have d6 := d5.mono w6
    refine rd_worst (n := 0) rfl d6.b ge5 fun l25 W7 cs25 n25 w7 h25 lc25 _ => ?_
    rw [ge3] at lc25
    obtain rfl := List.eq_nil_of_length_eq_zero lc25
    obtain ⟨y24, rfl⟩ : ∃ y, cs24 = [y] := List.length_eq_one_iff.mp lc24
    obtain ⟨b24, z24, e24, rfl, hb24, _⟩ := hc24 0 y24 rfl
    obtain rfl := Option.some.inj e24
    refine ⟨by show 5 ≤ sizeLine; decide, fun a26 n26 => to_new n26 fun W8 w8 h26 => ?_⟩
    have dT3 : Dx W8 (.ref a26) (.lst [.lst [], .lst [], .int 24, .lst [.lst [.int 1]], .lst []]) :=
      .lst h26 (.cons (.lst (w8 _ _ (w7 _ _ (w6 _ _ (w5 _ _ (w4 _ _ h22))))) .nil) (.cons (.lst (w8 _ _ (w7 _ _ (w6 _ _ (w5 _ _ h23)))) .nil) (.cons (.int 24) (.cons (.lst (w8 _ _ (w7 _ _ h24)) (.cons (.lst (w8 _ _ (w7 _ _ (off_some hb24).2)) (.cons (.int 1) .nil)) .nil)) (.cons (.lst (w8 _ _ h25) .nil) .nil)))))
    refine ⟨_, rfl, ?_⟩
    refine rd_dat (gv_lst (ga_cons (gv_lst ga_nil) (ga_cons (gv_lst ga_nil) (ga_cons (gv_int (i := 24)) (ga_cons (gv_lst (ga_cons (gv_lst (ga_cons (gv_int (i := 1)) ga_nil)) ga_nil)) (ga_cons (gv_lst ga_nil) ga_nil)))))) fun v27 W9 w9 d27 => ?_
    refine ⟨_, _, dx_dp (dx_mono w9 dT3) (by decide +kernel), dx_dp d27 (by decide +kernel), by decide +kernel, by decide +kernel, _, rfl, ?_⟩
    rw [show (!PyData.eqv (toPy (.lst [.lst [], .lst [], .int 24, .lst [.lst [.int 1]], .lst []])) (toPy (.lst [.lst [], .lst [], .int 24, .lst [.lst [.int 1]], .lst []]))) = false by decide +kernel]
    refine iteF ?_
    have d9 := d6.mono (w7.trans (w8.trans w9))
    refine rd_waits rfl d9.a fun l28 W10 n28 w10 h28 => ?_
    rw [fe1] at h28
    refine ⟨24, rfl, ⟨by decide, by decide, by decide, by decide, by decide⟩, fun a29 n29 => ?_⟩
    rw [show rgV 0 (24 : Int) = (upto 24).map V.int from rg0 24]
    refine to_new n29 fun W11 w11 h29 => ?_
    refine ⟨_, _, dp_ints (SqL.of (w11 _ _ h28)), dp_ints (SqL.of h29), (shp_ints _).ok, (shp_ints _).ok, ?_⟩
    rw [eqv_ints]
    have ww : Same W W11 := w1.trans (w2.trans (w3.trans (w4.trans (w5.trans (w6.trans (w7.trans (w8.trans (w9.trans (w10.trans w11)))))))))
    exact q W11 (exW.trans (LamX.ExtN.of ww)) (tW.ext ww)
end
end Song

/-! ### H6: _law_all_whole of k13 -/
namespace Song
open PySem L2
mutual
/-- whole numbers, texts, None, also within -/
def wholeAll : D → Bool
  | .non => true
  | .bl _ => false
  | .int _ => true
  | .str _ => true
  | .lst l => wholeAlls l
  | .tup l => wholeAlls l
  | .dic => false
def wholeAlls : List D → Bool
  | [] => true
  | d :: r => wholeAll d && wholeAlls r
def sizeD : D → Nat
  | .lst l => 1 + sizeDs l
  | .tup l => 1 + sizeDs l
  | _ => 1
def sizeDs : List D → Nat
  | [] => 0
  | d :: r => sizeD d + sizeDs r
end
theorem sizeDs_app : ∀ (l r : List D), sizeDs (l ++ r) = sizeDs l + sizeDs r
  | [], r => by show sizeDs r = 0 + sizeDs r; omega
  | d :: l, r => by
    show sizeD d + sizeDs (l ++ r) = sizeD d + sizeDs l + sizeDs r
    rw [sizeDs_app l r]; omega
theorem wholeAlls_app : ∀ (l r : List D), wholeAlls (l ++ r) = (wholeAlls l && wholeAlls r)
  | [], r => rfl
  | d :: l, r => by
    show (wholeAll d && wholeAlls (l ++ r)) = (wholeAll d && wholeAlls l && wholeAlls r)
    rw [wholeAlls_app l r, Bool.and_assoc]
theorem toPys_map : ∀ (l : List D), toPys l = l.map toPy
  | [] => rfl
  | d :: r => by show toPy d :: toPys r = _; rw [toPys_map r]; rfl
mutual
/-- texts that can be laid, not deep -/
def layD : Nat → D → Bool
  | 0, _ => false
  | k + 1, .lst l => layDs k l
  | k + 1, .tup l => layDs k l
  | _ + 1, .str s => PyData.canLay0 (.str s)
  | _ + 1, .dic => false
  | _ + 1, _ => true
def layDs : Nat → List D → Bool
  | _, [] => true
  | k, d :: r => layD k d && layDs k r
end
mutual
theorem layD_shp : ∀ {k : Nat} {d : D}, layD k d = true → Shp k (toPy d) ∧ noDic d = true
  | 0, _, h => by unfold layD at h; cases h
  | k + 1, .lst l, h => by
    unfold layD at h
    obtain ⟨h1, h2⟩ := layDs_shp h
    refine ⟨?_, by unfold noDic; exact h2⟩
    unfold toPy
    exact shp_list h1
  | k + 1, .tup l, h => by
    unfold layD at h
    obtain ⟨h1, h2⟩ := layDs_shp h
    refine ⟨?_, by unfold noDic; exact h2⟩
    unfold toPy
    exact shp_tuple h1
  | k + 1, .str s, h => by
    unfold layD at h
    exact ⟨by unfold toPy; exact shp_word h, by unfold noDic; rfl⟩
  | k + 1, .dic, h => by unfold layD at h; cases h
  | k + 1, .non, _ => ⟨by unfold toPy; exact ⟨by rw [PyData.canLay0], by rw [PyData.depth] <;> omega⟩, by unfold noDic; rfl⟩
  | k + 1, .bl b, _ => ⟨by unfold toPy; exact ⟨by rw [PyData.canLay0], by rw [PyData.depth] <;> omega⟩, by unfold noDic; rfl⟩
  | k + 1, .int i, _ => ⟨by unfold toPy; exact shp_int i, by unfold noDic; rfl⟩
theorem layDs_shp : ∀ {k : Nat} {l : List D}, layDs k l = true → (∀ x ∈ toPys l, Shp k x) ∧ noDics l = true
  | _, [], _ => ⟨fun x hx => (by unfold toPys at hx; cases hx), (by unfold noDics; rfl)⟩
  | k, d :: r, h => by
    unfold layDs at h
    rw [Bool.and_eq_true] at h
    obtain ⟨a1, a2⟩ := layD_shp h.1
    obtain ⟨b1, b2⟩ := layDs_shp h.2
    refine ⟨fun x hx => ?_, by unfold noDics; rw [a2, b2]; rfl⟩
    unfold toPys at hx
    rcases List.mem_cons.mp hx with e | e
    · rw [e]; exact a1
    · exact b1 x e
end
mutual
theorem layD_succ : ∀ {k : Nat} {d : D}, layD k d = true → layD (k + 1) d = true
  | 0, _, h => by unfold layD at h; cases h
  | k + 1, .lst l, h => by unfold layD at h ⊢; exact layDs_succ h
  | k + 1, .tup l, h => by unfold layD at h ⊢; exact layDs_succ h
  | k + 1, .str s, h => by unfold layD at h ⊢; exact h
  | k + 1, .dic, h => by unfold layD at h; cases h
  | k + 1, .non, _ => by unfold layD; rfl
  | k + 1, .bl b, _ => by unfold layD; rfl
  | k + 1, .int i, _ => by unfold layD; rfl
theorem layDs_succ : ∀ {k : Nat} {l : List D}, layDs k l = true → layDs (k + 1) l = true
  | _, [], _ => by unfold layDs; rfl
  | k, d :: r, h => by
    unfold layDs at h ⊢
    rw [Bool.and_eq_true] at h
    rw [layD_succ h.1, layDs_succ h.2]; rfl
end
theorem layDs_app : ∀ {k : Nat} {l r : List D}, layDs k l = true → layDs k r = true → layDs k (l ++ r) = true
  | _, [], _, _, h => h
  | k, d :: l, r, h, h2 => by
    unfold layDs at h
    rw [Bool.and_eq_true] at h
    show layDs k (d :: (l ++ r)) = true
    unfold layDs
    rw [h.1, layDs_app h.2 h2]; rfl
/-- the last one taken off a pile of data -/
theorem dxAll_last {H : Hp} {vs : List V} {ds : List D} (h : DxAll H vs ds) (n : ds ≠ []) : ∃ us u es e, vs = us ++ [u] ∧ ds = es ++ [e] ∧ DxAll H us es ∧ Dx H u e := by
  induction ds generalizing vs with
  | nil => exact absurd rfl n
  | cons d r ih =>
    cases h with
    | cons hd ha =>
      rename_i v ws
      cases r with
      | nil => cases ha; exact ⟨[], v, [], d, rfl, rfl, .nil, hd⟩
      | cons d2 r2 =>
        obtain ⟨us, u, es, e, e1, e2, a1, a2⟩ := ih ha (by simp)
        exact ⟨v :: us, u, d :: es, e, by rw [e1]; rfl, by rw [e2]; rfl, .cons hd a1, a2⟩
theorem sizeD_pos : ∀ d : D, 1 ≤ sizeD d
  | .lst l => by unfold sizeD; omega
  | .tup l => by unfold sizeD; omega
  | .non => by unfold sizeD; omega
  | .bl _ => by unfold sizeD; omega
  | .int _ => by unfold sizeD; omega
  | .str _ => by unfold sizeD; omega
  | .dic => by unfold sizeD; omega
theorem sizeDs_len : ∀ ds : List D, ds.length ≤ sizeDs ds
  | [] => Nat.le_refl _
  | d :: r => by
    have h1 := sizeD_pos d
    have h2 := sizeDs_len r
    show r.length + 1 ≤ sizeD d + sizeDs r
    omega
theorem sizeDs_snoc (l : List D) (d : D) : sizeDs (l ++ [d]) = sizeDs l + sizeD d := by
  rw [sizeDs_app]; show sizeDs l + (sizeD d + 0) = _; omega
theorem wholeAlls_snoc {l : List D} {d : D} (h : wholeAlls (l ++ [d]) = true) : wholeAlls l = true ∧ wholeAll d = true := by
  rw [wholeAlls_app, Bool.and_eq_true] at h
  refine ⟨h.1, ?_⟩
  have := h.2
  unfold wholeAlls at this
  rw [Bool.and_eq_true] at this
  exact this.1
theorem layDs_snoc {k : Nat} : ∀ {l : List D} {d : D}, layDs k (l ++ [d]) = true → layDs k l = true ∧ layD k d = true
  | [], d, h => by
    have h : layDs k [d] = true := h
    unfold layDs at h
    rw [Bool.and_eq_true] at h
    exact ⟨by unfold layDs; rfl, h.1⟩
  | e :: l, d, h => by
    have h : layDs k (e :: (l ++ [d])) = true := h
    unfold layDs at h
    rw [Bool.and_eq_true] at h
    obtain ⟨a, b⟩ := layDs_snoc h.2
    exact ⟨by unfold layDs; rw [h.1, a]; rfl, b⟩
theorem eqv_nilD (l : List D) : PyData.eqv (.list (toPys l)) (.list []) = l.isEmpty := by
  cases l with
  | nil => rfl
  | cons a r => rfl
theorem isiD {K : PySem.W.Frag} {H : Hp} {v : V} {d : D} {n : String} {b : Bool} {Q : VK} (h : Dx H v d) (e : PySem.W.kitOne K (.type (kindD d)) (.type n) = some b) (q : Q (.bl b) H) : rIsi K [v, .ty n] H Q := isi_of (dx_kd h) e q
section
variable {P : Program} {w : World} {K : PySem.W.Frag} {mg : Str → Option Value} {base : Heap}
theorem sc__law_all_whole : FnScope ["_law_things", "_law_left", "_law_one"] ["_law_things"] (defScope s__law_all_whole) := ⟨rfl, rfl, rfl, by decide +kernel, rfl, by decide +kernel, by decide +kernel⟩
def sp_all_whole : Sp := fun vs H Q _ => ∃ (v : V) (d : D), vs = [v] ∧ Dx H v d ∧ wholeAll d = true ∧ sizeD d ≤ 1000 ∧ layD 60 d = true ∧ ∀ H', Same H H' → Q (.bl true) H'
theorem fn__law_all_whole (T : Tx K mg) : Fn P w K mg base "_law_all_whole" 1 sp_all_whole := by
  obtain ⟨fd, F⟩ := T.d__law_all_whole
  refine ⟨_, fd, _, F.ok (CX := CX0) sc__law_all_whole (fun vs H Q E h => ?_) (fun cdv A outer s H vs Q E hr h => ?_), T.g__law_all_whole, F.kp, F.bindsN fun _ _ _ _ _ _ us hl => match us, hl with | [_], _ => rfl⟩
  · obtain ⟨v, d, rfl, _⟩ := h; rfl
  · obtain ⟨v, d, rfl, hd, hw, hz, hlay, q⟩ := h
    refine ⟨_, PSs.nox (pss_cons (ps_set (i := 1) sc__law_all_whole.nd rfl (by first | exact Or.inl rfl | exact Or.inr rfl) (pe_lst (pa_cons (pv 0) pa_nil)))
      (pss_cons (ps_while PassesOwn.never (pt_cmpR (show OpR _ _ (rNeD K) from op_neD hr.units) (pv 1) (pe_lst pa_nil) (nomark _)) (pss_cons (ps_set (i := 2) sc__law_all_whole.nd rfl (by first | exact Or.inl rfl | exact Or.inr rfl) (show PE _ _ (tBM0 K _ _ _) from pe_bm0 PySem.F.plainAttrs_list PySem.F.slot_list_pop PySem.F.type_list_pop mt_pop (pv 1)))
      (pss_one (ps_if (PW.pt (pw_or (pt_val (pe_callB (show CallR _ _ (rIsi K) from call_isi) (by rfl) T.isinstance (by decide +kernel) (pa_cons (pv 2) (pa_cons (pe_gt (n := "list") T.list (by rfl) (by decide +kernel)) pa_nil)))) (pw_or1 (pt_val (pe_callB (show CallR _ _ (rIsi K) from call_isi) (by rfl) T.isinstance (by decide +kernel) (pa_cons (pv 2) (pa_cons (pe_gt (n := "tuple") T.tuple (by rfl) (by decide +kernel)) pa_nil))))))) (pss_one (ps_expr (show PE _ _ (tBM K _ _ _ _) from pe_bm PySem.F.plainAttrs_list PySem.F.slot_list_extend PySem.F.type_list_extend mt_extend (pv 1) (pa_cons (pe_callTy (show CallR _ _ (rListO K) from call_list_of) (by rfl) T.list (by decide +kernel) (pa_cons (pv 2) pa_nil)) pa_nil)))) (pss_one (ps_if (PW.pt (pw_and (pt_cmpR op_notN (pv 2) pe_non (nomark _)) (pw_and1 (pt_not (pt_val (pe_callB (show CallR _ _ (rIsi K) from call_isi) (by rfl) T.isinstance (by decide +kernel) (pa_cons (pv 2) (pa_cons (pe_gt (n := "str") T.str (by rfl) (by decide +kernel)) pa_nil)))))))) (pss_one (ps_if (PW.pt (pw_or (pt_not (pt_val (pe_callB (show CallR _ _ (rIsi K) from call_isi) (by rfl) T.isinstance (by decide +kernel) (pa_cons (pv 2) (pa_cons (pe_gt (n := "int") T.int (by rfl) (by decide +kernel)) pa_nil))))) (pw_or1 (pt_val (pe_callB (show CallR _ _ (rIsi K) from call_isi) (by rfl) T.isinstance (by decide +kernel) (pa_cons (pv 2) (pa_cons (pe_gt (n := "bool") T.bool (by rfl) (by decide +kernel)) pa_nil))))))) (pss_one (ps_ret pe_bl)) pss_nil)) pss_nil))))))
      (pss_one (ps_ret pe_bl)))), ?_⟩
    refine ⟨_, rfl, by show 1 ≤ sizeLine; decide, fun p np => to_new np fun H1 s1 h1 => ?_⟩
    refine ⟨fun m σ H' => ∃ (x2 : Option V) (vs : List V) (ds : List D), σ = [some v, some (.ref p), x2] ∧ Same H (off [p] H') ∧ H' p = some (.lst vs) ∧ DxAll (off [p] H') vs ds ∧ wholeAlls ds = true ∧ layDs 60 ds = true ∧ sizeDs ds ≤ 1000 ∧ m = sizeDs ds, ⟨_, _, [v], [d], rfl, same_offnew s1 np, h1, .cons (dx_mono (same_offnew s1 np) hd) .nil, ?_, ?_, ?_, rfl⟩, ?_⟩
    · unfold wholeAlls wholeAlls; rw [hw]; rfl
    · unfold layDs layDs; rw [hlay]; rfl
    · show sizeD d + 0 ≤ 1000; omega
    rintro m σ G ⟨x2, vs, ds, rfl, sG, hp, hx, hwl, hly, hsz, rfl⟩
    obtain ⟨l1, l2⟩ := layDs_shp hly
    refine ⟨_, rfl, Nat.zero_le _, fun e ne => to_new ne fun G1 g1 he => ?_⟩
    refine ⟨_, _, .lst (SqL.of (g1 _ _ hp)) (dxAll_dp (dxAll_mono ((off_le _ _).trans g1) hx) l2), .lst (SqL.of he) .nil, (shp_list l1).ok, shp_nil.ok, _, rfl, ?_⟩
    rw [eqv_nilD]
    have nep : e ≠ p := (ne_of_none hp ne).symm
    have hp1 := g1 _ _ hp
    have sG1 : Same H (off [p] G1) := sG.trans (off_mono g1)
    have hx1 := dxAll_mono (off_mono (S := [p]) g1) hx
    cases hds : ds with
    | nil =>
      refine iteF ?_
      exact q G1 (sG1.trans (off_le _ _))
    | cons d0 r0 =>
      refine iteT ⟨fun σ' H' => ∃ m', m' < sizeDs ds ∧ ∃ (x2 : Option V) (vs : List V) (ds : List D), σ' = [some v, some (.ref p), x2] ∧ Same H (off [p] H') ∧ H' p = some (.lst vs) ∧ DxAll (off [p] H') vs ds ∧ wholeAlls ds = true ∧ layDs 60 ds = true ∧ sizeDs ds ≤ 1000 ∧ m' = sizeDs ds, fun σ' H' h => by rw [← hds]; exact h, ?_⟩
      obtain ⟨us, u, es, f, rfl, rfl, xu, xf⟩ := dxAll_last hx1 (by rw [hds]; simp)
      obtain ⟨w1, w2⟩ := wholeAlls_snoc hwl
      obtain ⟨y1, y2⟩ := layDs_snoc hly
      rw [sizeDs_snoc] at hsz
      have f1 := sizeD_pos f
      have lu := dxAll_len xu
      have lz := sizeDs_len es
      refine ⟨_, rfl, .inl ⟨rfl, _, SqL.of hp1⟩, p, _, u, rfl, rfl, hp1, by simp, ?_⟩
      rw [List.dropLast_concat]
      have offp : ∀ o, off [p] (upd G1 p o) = off [p] G1 := fun o => off_one
      -- the ends of a turn
      have fin : ∀ (X : Hp) (ws : List V) (fs : List D), Same (off [p] G1) (off [p] X) → X p = some (.lst ws) → DxAll (off [p] X) ws fs → wholeAlls fs = true → layDs 60 fs = true → sizeDs fs < sizeDs (es ++ [f]) → ∃ m', m' < sizeDs (es ++ [f]) ∧ ∃ (x2 : Option V) (vs : List V) (ds : List D), [some v, some (.ref p), some u] = [some v, some (.ref p), x2] ∧ Same H (off [p] X) ∧ X p = some (.lst vs) ∧ DxAll (off [p] X) vs ds ∧ wholeAlls ds = true ∧ layDs 60 ds = true ∧ sizeDs ds ≤ 1000 ∧ m' = sizeDs ds := fun X ws fs k1 k2 k3 k4 k5 k6 =>
        ⟨_, k6, _, ws, fs, rfl, sG1.trans k1, k2, k3, k4, k5, by rw [sizeDs_snoc] at k6; omega, rfl⟩
      have sTop : Same (off [p] G1) (off [p] (upd G1 p (.lst us))) := by rw [offp]; exact Same.refl _
      have xu' : DxAll (off [p] (upd G1 p (.lst us))) us es := by rw [offp]; exact xu
      have xf' : Dx (off [p] (upd G1 p (.lst us))) u f := by rw [offp]; exact xf
      have hpu : (upd G1 p (.lst us)) p = some (.lst us) := upd_same
      generalize upd G1 p (.lst us) = X at sTop xu' xf' hpu ⊢
      have xX : Dx X u f := dx_mono (off_le _ _) xf'
      obtain ⟨k1, k2, k3, k4, k5⟩ := kit_kd (K := K) (dx_kd xX)
      have small : sizeDs es < sizeDs (es ++ [f]) := by rw [sizeDs_snoc]; omega
      -- the children put on the pile
      have kids : ∀ (ws : List V) (fs : List D), DxAll (off [p] X) ws fs → wholeAlls fs = true → layDs 59 fs = true → sizeDs fs + 1 = sizeD f → ∀ l, X l = none → ∀ Y, Same X Y → Y l = some (.lst ws) → us.length + ws.length ≤ sizeLine ∧ ∃ m', m' < sizeDs (es ++ [f]) ∧ ∃ (x2 : Option V) (vs : List V) (ds : List D), [some v, some (.ref p), some u] = [some v, some (.ref p), x2] ∧ Same H (off [p] (upd Y p (.lst (us ++ ws)))) ∧ (upd Y p (.lst (us ++ ws))) p = some (.lst vs) ∧ DxAll (off [p] (upd Y p (.lst (us ++ ws)))) vs ds ∧ wholeAlls ds = true ∧ layDs 60 ds = true ∧ sizeDs ds ≤ 1000 ∧ m' = sizeDs ds := fun ws fs a1 a2 a3 a4 l nl Y sY hl => by
        have lw := dxAll_len a1
        have lf := sizeDs_len fs
        refine ⟨Nat.le_of_lt (Nat.lt_of_le_of_lt (show us.length + ws.length ≤ 1000 by omega) (by decide)), ?_⟩
        refine fin _ (us ++ ws) (es ++ fs) ?_ upd_same ?_ ?_ ?_ ?_
        · rw [off_one]; exact sTop.trans (off_mono sY)
        · rw [off_one]; exact dxAll_app (dxAll_mono (off_mono sY) xu') (dxAll_mono (off_mono sY) a1)
        · rw [wholeAlls_app, w1, a2]; rfl
        · exact layDs_app y1 (layDs_succ a3)
        · rw [sizeDs_snoc, sizeDs_app]; omega
      refine ⟨_, rfl, _, _, _, _, _, rfl, .ty _, dx_kd xX, k3, _, rfl, ?_⟩
      have isi : ∀ {n : String} {b : Bool} {R : VK} {Y : Hp}, Same X Y → PySem.W.kitOne K (.type (kindD f)) (.type n) = some b → R (.bl b) Y → rIsi K [u, .ty n] Y R := fun sY e r => isi_of (dx_kd (dx_mono sY xX)) e r
      have plain : ∃ m', m' < sizeDs (es ++ [f]) ∧ ∃ (x2 : Option V) (vs : List V) (ds : List D), [some v, some (.ref p), some u] = [some v, some (.ref p), x2] ∧ Same H (off [p] X) ∧ X p = some (.lst vs) ∧ DxAll (off [p] X) vs ds ∧ wholeAlls ds = true ∧ layDs 60 ds = true ∧ sizeDs ds ≤ 1000 ∧ m' = sizeDs ds := fin X us es sTop hpu xu' w1 y1 small
      cases f with
      | lst fs =>
        refine iteT (iteT ?_)
        obtain ⟨a, ws, rfl, ha, hws⟩ := dx_lst xf'
        obtain ⟨na, ha'⟩ := off_some ha
        refine ⟨_, rfl, .inl ⟨rfl, _, SqL.of hpu⟩, _, rfl, a, ws, rfl, .inl (SqL.of ha'), fun l nl => to_new nl fun Y sY hl => ?_⟩
        obtain ⟨z1, z2⟩ := kids ws fs hws (by unfold wholeAll at w2; exact w2) (by unfold layD at y2; exact y2) (by show _ = sizeD (.lst fs); unfold sizeD; omega) l nl Y sY hl
        exact ⟨p, l, us, ws, rfl, rfl, sY _ _ hpu, hl, z1, z2⟩
      | tup fs =>
        refine iteF ⟨_, rfl, _, _, _, _, _, rfl, .ty _, dx_kd xX, k4, _, rfl, iteT ?_⟩
        cases xf' with
        | tup ha hws =>
          rename_i a ws
          obtain ⟨na, ha'⟩ := off_some ha
          refine ⟨_, rfl, .inl ⟨rfl, _, SqL.of hpu⟩, _, rfl, a, ws, rfl, .inr (SqT.of ha'), fun l nl => to_new nl fun Y sY hl => ?_⟩
          obtain ⟨z1, z2⟩ := kids ws fs hws (by unfold wholeAll at w2; exact w2) (by unfold layD at y2; exact y2) (by show _ = sizeD (.tup fs); unfold sizeD; omega) l nl Y sY hl
          exact ⟨p, l, us, ws, rfl, rfl, sY _ _ hpu, hl, z1, z2⟩
      | non =>
        refine iteF ⟨_, rfl, _, _, _, _, _, rfl, .ty _, dx_kd xX, k4, _, rfl, iteF ?_⟩
        cases xf'
        exact ⟨_, rfl, rfl, _, rfl, iteF (iteF plain)⟩
      | int i =>
        refine iteF ⟨_, rfl, _, _, _, _, _, rfl, .ty _, dx_kd xX, k4, _, rfl, iteF ?_⟩
        cases xf'
        refine ⟨_, rfl, rfl, _, rfl, iteT ⟨_, rfl, _, _, _, _, _, rfl, .ty _, dx_kd xX, k5, _, rfl, iteT ?_⟩⟩
        exact ⟨_, rfl, _, _, _, _, _, rfl, .ty _, dx_kd xX, k1, _, rfl, iteF ⟨_, rfl, _, _, _, _, _, rfl, .ty _, dx_kd xX, k2, _, rfl, iteF plain⟩⟩
      | str x =>
        refine iteF ⟨_, rfl, _, _, _, _, _, rfl, .ty _, dx_kd xX, k4, _, rfl, iteF ?_⟩
        cases xf'
        exact ⟨_, rfl, rfl, _, rfl, iteT ⟨_, rfl, _, _, _, _, _, rfl, .ty _, dx_kd xX, k5, _, rfl, iteF plain⟩⟩
      | bl b => unfold wholeAll at w2; cases w2
      | dic => unfold wholeAll at w2; cases w2
end
end Song

/-! ### Al: singers alike often (plain) -/
namespace Song
/-- m singers, each o times, the first r of them once more -/
structure Alike (songs : List Int) (m o r : Nat) : Prop where
  len : songs.length = m * o + r
  cnt : ∀ s : Int, 0 ≤ s → s < m → songs.count s = o + if s < r then 1 else 0
  inb : InB m songs
  r1 : 1 ≤ r
  rm : r < m
  o1 : 1 ≤ o
  m6 : m ≤ 6
  l24 : songs.length ≤ 24
theorem Alike.ok {songs : List Int} {m o r : Nat} (a : Alike songs m o r) : SgOk songs := fun s hs => by
  have := a.inb s hs
  have := a.m6
  omega
theorem Alike.nums {songs : List Int} {m o r : Nat} (a : Alike songs m o r) : whole songs ((m : Int) - 1) = o ∧ rest songs ((m : Int) - 1) = r ∧ most songs ((m : Int) - 1) = o + 1 := by
  have hm : ((m : Int) - 1 + 1) = (m : Int) := by omega
  have hr := a.rm
  have hr1 := a.r1
  have e1 : whole songs ((m : Int) - 1) = o := by
    unfold whole
    rw [hm, a.len]
    have : ((m * o + r : Nat) : Int) / (m : Int) = ((m * o + r) / m : Nat) := rfl
    rw [this, Nat.mul_add_div (by omega), Nat.div_eq_of_lt hr]; rfl
  have e2 : rest songs ((m : Int) - 1) = r := by
    unfold rest
    rw [hm, a.len]
    have : ((m * o + r : Nat) : Int) % (m : Int) = ((m * o + r) % m : Nat) := rfl
    rw [this, Nat.mul_add_mod, Nat.mod_eq_of_lt hr]
  refine ⟨e1, e2, ?_⟩
  unfold most
  rw [e1, e2, if_pos (by omega)]
theorem Alike.none {songs : List Int} {m o r : Nat} (a : Alike songs m o r) : barring songs ((m : Int) - 1) = none := by
  obtain ⟨e1, e2, e3⟩ := a.nums
  have hr1 := a.r1
  have hc : ∀ s ∈ songs, (songs.count s : Int) ≤ o + 1 := fun s hs => by
    obtain ⟨h0, h1⟩ := a.inb s hs
    rw [a.cnt s h0 h1]
    split <;> omega
  have hb1 : ∀ s ∈ sng songs, barsP songs ((m : Int) - 1) [s] = false := fun s hs => by
    have := hc s ((mem_sng a.ok).mp hs)
    unfold barsP
    rw [if_neg (by simp [rising]), if_neg (fun z => by have := z.2; rw [e3] at this; simp only [List.headD_cons] at this; omega), decide_eq_false (fun z => by rw [e2] at z; have := z.2; simp at this; omega)]; rfl
  unfold barring
  rw [List.find?_eq_none.mpr fun s hs => by rw [hb1 s hs]; simp]
  dsimp only
  have hfl : (full songs ((m : Int) - 1)).length ≤ r := by
    refine nodup_len (n := r) (fun s hs => ?_) (((sng_lt songs).filter _).imp fun {a b} h => by omega)
    obtain ⟨m1, m2⟩ := List.mem_filter.mp hs
    obtain ⟨h0, h1⟩ := a.inb s ((mem_sng a.ok).mp m1)
    have m2 := of_decide_eq_true m2
    rw [e1, a.cnt s h0 h1] at m2
    refine ⟨h0, ?_⟩
    split at m2
    · assumption
    · omega
  refine if_neg fun hb => ?_
  unfold barsP at hb
  split at hb
  · cases hb
  · split at hb
    · rename_i z
      have h2 := z.2
      rw [e3] at h2
      cases hf : full songs ((m : Int) - 1) with
      | nil => rw [hf] at z; have := z.1; simp at this
      | cons s l =>
        rw [hf] at h2
        have hs : s ∈ full songs ((m : Int) - 1) := by rw [hf]; simp
        have := hc s ((mem_sng a.ok).mp (List.mem_filter.mp hs).1)
        simp only [List.headD_cons] at h2
        omega
    · rw [Bool.and_eq_true] at hb
      have := (of_decide_eq_true hb.1).2
      rw [e2] at this
      omega
theorem Alike.spc {songs : List Int} {m o r : Nat} (a : Alike songs m o r) {os : List Int} (p : os.Perm (upto songs.length)) : ¬ Spc songs os (m : Int) := fun hS => by
  have hlen : os.length = m * o + r := by rw [p.length_eq, upto_len, a.len]
  have ho := a.o1
  have hm1 : m + 1 ≤ os.length := by
    have := a.r1
    have : m * 1 ≤ m * o := Nat.mul_le_mul_left m ho
    omega
  have nd : ((os.take (m + 1)).map (atS songs)).Nodup := by
    refine List.pairwise_iff_getElem.mpr fun i j hi hj hij e => ?_
    rw [List.length_map, List.length_take] at hi hj
    rw [List.getElem_map, List.getElem_map, List.getElem_take, List.getElem_take] at e
    have := hS i j os[i] os[j] hij (List.getElem?_eq_getElem _) (List.getElem?_eq_getElem _) e
    omega
  have hl := nodup_len (n := m) (fun s hs => ?_) nd
  · rw [List.length_map, List.length_take] at hl
    omega
  · obtain ⟨x, hx, rfl⟩ := List.mem_map.mp hs
    have hx := p.mem_iff.mp (List.mem_of_mem_take hx)
    have hxm : atS songs x ∈ songs := by
      have := List.mem_map_of_mem (f := atS songs) hx
      rwa [map_upto] at this
    exact a.inb _ hxm
theorem Alike.some {songs : List Int} {m o r : Nat} (a : Alike songs m o r) : barring songs (m : Int) ≠ .none := fun e => by
  obtain ⟨p, s⟩ := order_ok (by omega) a.ok e
  exact a.spc p s
theorem Alike.twice {songs : List Int} {m o r : Nat} (a : Alike songs m o r) : twice songs = true := by
  have hr1 := a.r1
  have ho := a.o1
  have hc := a.cnt 0 (by omega) (by have := a.rm; omega)
  rw [if_pos (by omega)] at hc
  refine List.any_eq_true.mpr ⟨0, List.count_pos_iff.mp (by omega), decide_eq_true (by omega)⟩
theorem Alike.widest {songs : List Int} {m o r : Nat} (a : Alike songs m o r) : widest songs = .some ((m : Int) - 1) := by
  unfold Song.widest
  rw [if_pos a.twice]
  obtain ⟨w1, w2, w3, _⟩ := wid_spec a.ok a.twice songs.length 0 (Int.le_refl _) (by omega) fun k k0 k1 => by
    rw [show k = 0 by omega]; exact barring_zero a.ok
  have hm := a.rm
  congr 1
  have h1 : wid songs songs.length 0 < (m : Int) := by
    refine Classical.byContradiction fun z => a.some (w2 (m : Int) (by omega) (by omega))
  have h2 : (m : Int) - 1 ≤ wid songs songs.length 0 := by
    refine Classical.byContradiction fun z => w3 ?_
    cases e : barring songs (wid songs songs.length 0 + 1) with
    | none => rfl
    | some ss =>
      obtain ⟨p, s⟩ := order_ok (by omega) a.ok a.none
      refine absurd (fun i j x y hij hx hy hxy => ?_) (bars_no (by omega) (barring_bars e) p)
      have := s i j x y hij hx hy hxy
      omega
  omega
/-- one more at a place -/
theorem count_ins (xs : List Int) (k : Nat) (x s : Int) : (xs.take k ++ x :: xs.drop k).count s = xs.count s + if s = x then 1 else 0 := by
  rw [List.count_append, List.count_cons]
  have := congrArg (List.count s) (List.take_append_drop k xs)
  rw [List.count_append] at this
  by_cases e : s = x
  · subst e; simp; omega
  · have : ¬ (x = s) := fun z => e z.symm
    simp [e, this]; omega
end Song

/-! ### Wr: _law_wholes_right of k13 -/
namespace Song
open PySem L2
theorem dxAll_pt {H : Hp} : ∀ {vs : List V} {ds : List D}, vs.length = ds.length → (∀ (i : Nat) v, vs[i]? = some v → ∃ d, ds[i]? = some d ∧ Dx H v d) → DxAll H vs ds
  | [], [], _, _ => .nil
  | [], _ :: _, h, _ => by cases h
  | _ :: _, [], h, _ => by cases h
  | v :: vs, d :: ds, h, r => by
    obtain ⟨d', e, q⟩ := r 0 v rfl
    cases e
    exact .cons q (dxAll_pt (by simpa using h) fun i v' e => by
      obtain ⟨d', e1, e2⟩ := r (i + 1) v' (by simpa using e)
      exact ⟨d', by simpa using e1, e2⟩)
theorem part_dx {H : Hp} {v : V} {p : Part} (h : PartAt H v p) : Dx H v p.toD := by
  cases v with
  | ref t =>
    cases p with
    | wish ss n r =>
      obtain ⟨b, h1, h2⟩ := h
      exact .tup h1 (.cons (.str _) (.cons (.lst h2 (dxAll_intsD ss)) (.cons (.int _) (.cons (.int _) .nil))))
    | sing o =>
      refine .tup h (.cons (.str _) (.cons ?_ .nil))
      cases o with
      | none => exact .non
      | some n => exact .int n
    | out n => exact .tup h (.cons (.str _) (.cons (.int _) .nil))
  | _ => exact h.elim
def aheadD (ah : List Int) : D := .lst (ah.map fun x => .lst [.int x])
theorem worst_dx {Z : List Addr} {H0 H' : Hp} {l : Addr} {cs : List V} {ah : List Int} (hZ : ∀ a ∈ Z, ∃ o, H0 a = some o) (nl : H0 l = none) (hl : H' l = some (.lst cs)) (len : cs.length = ah.length)
    (hc : ∀ (i : Nat) v, cs[i]? = some v → ∃ b x, ah[i]? = some x ∧ v = .ref b ∧ off [l] H' b = some (.lst ([x].map V.int)) ∧ H0 b = none) : Dx (off Z H') (.ref l) (aheadD ah) := by
  refine .lst (by rw [off_out (new_out hZ nl)]; exact hl) (dxAll_pt (by rw [len, List.length_map]) fun i v e => ?_)
  obtain ⟨b, x, e1, rfl, e3, e4⟩ := hc i v e
  refine ⟨.lst [.int x], by rw [List.getElem?_map, e1]; rfl, .lst ?_ (.cons (.int x) .nil)⟩
  rw [off_out (new_out hZ e4)]
  exact (off_some e3).2
section
variable {K : PySem.W.Frag} {S : List Addr} {H : Hp} {p : Addr} {A : Ad} {st : EvS} {σ : L2.St} {Q : VK} {i j : Nat}
theorem rd_wishV {ss : List Int} {l : Addr} (hσ : σ[i]? = some (some (.ref p))) (hj : σ[j]? = some (some (.ref l))) (e : EvG K S H p A st) (hl : off (own p A) H l = some (.lst (ss.map V.int))) (hA : areSingers ss st.last.length = true) (h24 : st.rounds.length < 24) (ht : st.tale.length < 900)
    (h : ∀ H' t, Fra (own p A) H H' → EvG K S H' p A (st.wish ss) → H t = none → H' t = some (.tup [.int st.rounds.length, .int (st.num ss)]) → Q (.ref t) H') :
    iMeth (He.ga K "Evening") "wish" (sp_wish K) (tVar i) (tCons (tVar j) tNil) σ H Q := by
  obtain ⟨dx, hp⟩ := e.ev.pp
  obtain ⟨s1, s3, sin, _⟩ := areS_len hA
  refine iMeth_of ⟨_, hσ, p, dx, _, rfl, hp, evF_no _ _ (by decide +kernel), _, hj, S, p, l, A, st, ss, rfl, e.ev, e.ok, ht, .inl (.inl hl), hA, h24, fun H' t f e' nt ht' => ?_⟩
  exact h H' t f ⟨e', e.ok.wish h24 s3, e.eb.wish sin (fun z => by rw [z] at s1; simp at s1)⟩ nt ht'
end
/-- a list that grows, what it holds lies outside of Z -/
structure Tld (Z : List Addr) (a : Addr) (H : Hp) (vs : List V) (ds : List D) : Prop where
  at_ : H a = some (.lst vs)
  all : DxAll (off Z H) vs ds
theorem Tld.mono {Z : List Addr} {a : Addr} {H H' : Hp} {vs : List V} {ds : List D} (s : Same H H') (t : Tld Z a H vs ds) : Tld Z a H' vs ds := ⟨s _ _ t.at_, dxAll_mono (off_mono s) t.all⟩
theorem Tld.snoc {Z : List Addr} {a : Addr} {H : Hp} {vs : List V} {ds : List D} {v : V} {d : D} (ha : a ∈ Z) (t : Tld Z a H vs ds) (h : Dx (off Z H) v d) : Tld Z a (upd H a (.lst (vs ++ [v]))) (vs ++ [v]) (ds ++ [d]) :=
  ⟨upd_same, by rw [off_put ha]; exact dxAll_app t.all (.cons h .nil)⟩
def wr3 : EvS := (((evNew 3).wish [0]).wish [0, 2]).wish [1]
def wr5 : EvS := wr3.sing.out 2
theorem wr_facts : wr3.next = some 0 ∧ (1 : Int) ∈ wr3.waiting ∧ (2 : Int) ∈ wr3.sing.waiting := by decide +kernel
def wo : List (List Int) := [[0], [0, 1], [0], [1, 3], [2]]
def wo5 : Nat → EvS
  | 0 => evNew 4
  | n + 1 => (wo5 n).wish (wo.getD n [])
theorem wo_can : ∀ i : Nat, i < 5 → areSingers (wo.getD i []) (wo5 i).last.length = true ∧ (wo5 i).rounds.length < 24 ∧ (wo5 i).tale.length < 900 := by decide +kernel
theorem wo_waits : ∀ i : Nat, i < 5 → (0 + (i : Int)) ∈ (wo5 5).waiting := by decide +kernel
theorem wr_fw : firstWrong 3 [.sing (some 0)] = 0 := by decide +kernel
theorem wr_b1 : barring [0, 1, 0, 1] 1 = none := by decide +kernel
theorem wr_b2 : barring [0, 0, 0] 1 = some [0] := by decide +kernel
def wrR : List (List Int) := [[0], [1], [0]]
theorem wr_lg : least (pick wrR [0, 1, 2]) = some 1 := by decide +kernel
theorem wr_wd : widest [0, 1, 0, 1] = some 1 := by decide +kernel
theorem wr_wf : (widestFew wrR).1 = some 1 := by decide +kernel
theorem wrR_ok : GrOk wrR := by unfold GrOk; decide +kernel
def wrD1 : List D := [.tup [.int 0, .int 1], .tup [.int 1, .int 2], .tup [.int 2, .int 1], intsD wr3.queue, .int (wr3.within 1)]
def wrD2 : D := .lst [aheadD (wr3.ahead 1), .int 0, .int wr3.sing.going, .int wr5.waiting.length, taleDs wr5.tale]
def wrD3 : D := .lst [.int 0, intsD (orderFor [0, 1, 0, 1] 1), intsD [0]]
def wrD4 : D := .lst ((List.range 5).map fun i : Nat => .lst [aheadD ((wo5 5).ahead (0 + (i : Int))), .int ((wo5 5).within (0 + (i : Int)))])
def wrD5 : D := .lst [.int 1, .int 1, .tup [.int 1, intsD (widestFew wrR).2]]
def wrAll : D := .lst (wrD1 ++ [wrD2] ++ [wrD3] ++ [wrD4] ++ [wrD5])
theorem wr_all : wholeAll wrAll = true ∧ sizeD wrAll ≤ 1000 ∧ layD 60 wrAll = true := by decide +kernel
section
variable {P : Program} {w : World} {K : PySem.W.Frag} {mg : Str → Option Value} {base : Heap}
theorem sc__law_wholes_right : FnScope ["_law_evening", "_law_told", "_law_other", "_law_singers", "_law_song"] [] (defScope s__law_wholes_right) := ⟨rfl, rfl, rfl, by decide +kernel, rfl, by decide +kernel, by decide +kernel⟩
theorem fn__law_wholes_right (T : Tx K mg) : Fn P w K mg base "_law_wholes_right" 7 sp_true := by
  obtain ⟨fd, F⟩ := T.d__law_wholes_right
  refine ⟨_, fd, _, F.ok (CX := CX0) sc__law_wholes_right (fun vs H Q E h => ?_) (fun cdv A outer s H vs Q E hr h => ?_), T.g__law_wholes_right, F.kp, F.bindsN fun _ _ _ _ _ _ us hl => match us, hl with | [], _ => rfl⟩
  · obtain ⟨rfl, _⟩ := h; rfl
  · obtain ⟨rfl, q⟩ := h
    refine ⟨_, PSs.nox (pss_cons (ps_set (i := 0) sc__law_wholes_right.nd rfl (by first | exact Or.inl rfl | exact Or.inr rfl) (pe_iMk (pe_mk (mk_Evening T) (hr.mono (by first | decide | omega)) (by rfl) (pa_cons pe_int pa_nil))))
      (pss_cons (ps_set (i := 1) sc__law_wholes_right.nd rfl (by first | exact Or.inl rfl | exact Or.inr rfl) (pe_iE (pe_lst (pa_cons (pe_iMe (pe_me (me_Evening_wish T) (hr.mono (by first | decide | omega)) (pv 0) (pa_cons (pe_lst (pa_cons pe_int pa_nil)) pa_nil))) (pa_cons (pe_iMe (pe_me (me_Evening_wish T) (hr.mono (by first | decide | omega)) (pv 0) (pa_cons (pe_lst (pa_cons pe_int (pa_cons pe_int pa_nil))) pa_nil))) (pa_cons (pe_iMe (pe_me (me_Evening_wish T) (hr.mono (by first | decide | omega)) (pv 0) (pa_cons (pe_lst (pa_cons pe_int pa_nil)) pa_nil))) (pa_cons (pe_iMe (pe_me0 (me_Evening_waits T) (hr.mono (by first | decide | omega)) (pv 0))) (pa_cons (pe_iMe (pe_me (me_Evening_within T) (hr.mono (by first | decide | omega)) (pv 0) (pa_cons pe_int pa_nil))) pa_nil))))))))
      (pss_cons (ps_expr (show PE _ _ (tBM K _ _ _ _) from pe_bm PySem.F.plainAttrs_list PySem.F.slot_list_append PySem.F.type_list_append mt_append (pv 1) (pa_cons (pe_iE (pe_lst (pa_cons (pe_iMe (pe_me (me_Evening_worst T) (hr.mono (by first | decide | omega)) (pv 0) (pa_cons pe_int pa_nil))) (pa_cons (pe_iMe (pe_me0 (me_Evening_sing T) (hr.mono (by first | decide | omega)) (pv 0))) (pa_cons (pe_iMe (pe_me0 (me_Evening_round_now T) (hr.mono (by first | decide | omega)) (pv 0))) (pa_cons (pe_iMe (pe_me (me_Evening_withdraw T) (hr.mono (by first | decide | omega)) (pv 0) (pa_cons pe_int pa_nil))) (pa_cons (pe_iMe (pe_me0 (me_Evening_tale T) (hr.mono (by first | decide | omega)) (pv 0))) pa_nil))))))) pa_nil)))
      (pss_cons (ps_expr (show PE _ _ (tBM K _ _ _ _) from pe_bm PySem.F.plainAttrs_list PySem.F.slot_list_append PySem.F.type_list_append mt_append (pv 1) (pa_cons (pe_iE (pe_lst (pa_cons (show PE _ _ (tFld K _ _) from pe_fld (pe_fn (fn_judged T) (hr.mono (by first | decide | omega)) (by rfl) (pa_cons pe_int (pa_cons (pe_lst (pa_cons (pe_tup (pa_cons pe_str (pa_cons pe_int pa_nil))) pa_nil)) pa_nil))) rfl) (pa_cons (show PE _ _ (tFld K _ _) from pe_fld (pe_fn (fn_spaced T) (hr.mono (by first | decide | omega)) (by rfl) (pa_cons (pe_lst (pa_cons pe_int (pa_cons pe_int (pa_cons pe_int (pa_cons pe_int pa_nil))))) (pa_cons pe_int pa_nil))) rfl) (pa_cons (show PE _ _ (tFld K _ _) from pe_fld (pe_fn (fn_spaced T) (hr.mono (by first | decide | omega)) (by rfl) (pa_cons (pe_lst (pa_cons pe_int (pa_cons pe_int (pa_cons pe_int pa_nil)))) (pa_cons pe_int pa_nil))) rfl) pa_nil))))) pa_nil)))
      (pss_cons (ps_set (i := 2) sc__law_wholes_right.nd rfl (by first | exact Or.inl rfl | exact Or.inr rfl) (pe_iMk (pe_mk (mk_Evening T) (hr.mono (by first | decide | omega)) (by rfl) (pa_cons pe_int pa_nil))))
      (pss_cons (ps_for PassesOwn.never rfl (show PI _ _ _ (iTup K _) from pi_tup (pe_tup (pa_cons (pe_iE (pe_lst (pa_cons pe_int pa_nil))) (pa_cons (pe_iE (pe_lst (pa_cons pe_int (pa_cons pe_int pa_nil)))) (pa_cons (pe_iE (pe_lst (pa_cons pe_int pa_nil))) (pa_cons (pe_iE (pe_lst (pa_cons pe_int (pa_cons pe_int pa_nil)))) (pa_cons (pe_iE (pe_lst (pa_cons pe_int pa_nil))) pa_nil))))))) (pg_name (i := 3) sc__law_wholes_right.nd rfl (by first | exact Or.inl rfl | exact Or.inr rfl))
      (pss_one (ps_expr (pe_iMe (pe_me (me_Evening_wish T) (hr.mono (by first | decide | omega)) (pv 2) (pa_cons (pv 3) pa_nil))))))
      (pss_cons (ps_expr (show PE _ _ (tBM K _ _ _ _) from pe_bm PySem.F.plainAttrs_list PySem.F.slot_list_append PySem.F.type_list_append mt_append (pv 1) (pa_cons (pe_lc (own := [("_law_song", 4)]) (g := (gName 4)) (tt := tYes) (by rfl) sc__law_wholes_right.nd (pi_range1 (by rfl) T.range (pa_cons pe_int pa_nil)) (blkOk_by (by kernel_rfl)) (fun _ _ _ _ _ => (pg_name (i := 4) sc__law_wholes_right.nd rfl (by first | exact Or.inl rfl | exact Or.inr rfl))) (fun _ _ _ _ _ => pts_nil) (fun _ _ _ _ _ => (pe_iE (pe_lst (pa_cons (pe_iMe (pe_me (me_Evening_worst T) (hr.mono (by first | decide | omega)) (pv 2) (pa_cons (pv 4) pa_nil))) (pa_cons (pe_iMe (pe_me (me_Evening_within T) (hr.mono (by first | decide | omega)) (pv 2) (pa_cons (pv 4) pa_nil))) pa_nil)))))) pa_nil)))
      (pss_cons (ps_expr (show PE _ _ (tBM K _ _ _ _) from pe_bm PySem.F.plainAttrs_list PySem.F.slot_list_append PySem.F.type_list_append mt_append (pv 1) (pa_cons (pe_iE (pe_lst (pa_cons (pe_fn (fn_least_gap T) (hr.mono (by first | decide | omega)) (by rfl) (pa_cons (pe_lst (pa_cons (pe_lst (pa_cons pe_int pa_nil)) (pa_cons (pe_lst (pa_cons pe_int pa_nil)) (pa_cons (pe_lst (pa_cons pe_int pa_nil)) pa_nil)))) (pa_cons (pe_lst (pa_cons pe_int (pa_cons pe_int (pa_cons pe_int pa_nil)))) pa_nil))) (pa_cons (pe_fn (fn_widest T) (hr.mono (by first | decide | omega)) (by rfl) (pa_cons (pe_lst (pa_cons pe_int (pa_cons pe_int (pa_cons pe_int (pa_cons pe_int pa_nil))))) pa_nil)) (pa_cons (pe_fn (fn_widest_few T) (hr.mono (by first | decide | omega)) (by rfl) (pa_cons (pe_lst (pa_cons (pe_lst (pa_cons pe_int pa_nil)) (pa_cons (pe_lst (pa_cons pe_int pa_nil)) (pa_cons (pe_lst (pa_cons pe_int pa_nil)) pa_nil)))) pa_nil)) pa_nil))))) pa_nil)))
      (pss_one (ps_ret (pe_fn (fn__law_all_whole T) (hr.mono (by first | decide | omega)) (by rfl) (pa_cons (pv 1) pa_nil)))))))))))), ?_⟩
    refine rd_set0 ?_
    refine rd_new (n := 3) (by decide) (by decide) fun G1 p A' g1 e1 new1 => ?_
    refine rd_set0 (iE_of ?_)
    refine rd_wish (ss := [0]) rfl e1 (by decide +kernel) (by decide +kernel) (by decide +kernel) fun G2 t2 f2 e2 nt2 ht2 => ?_
    refine rd_wish (ss := [0, 2]) rfl e2 (by decide +kernel) (by decide +kernel) (by decide +kernel) fun G3 t3 f3 e3 nt3 ht3 => ?_
    refine rd_wish (ss := [1]) rfl e3 (by decide +kernel) (by decide +kernel) (by decide +kernel) fun G4 t4 f4 e4 nt4 ht4 => ?_
    have e4 : EvA K G4 p A' wr3 := e4
    refine rd_waits rfl e4 fun l5 G5 n5 g5 h5 => ?_
    have e5 := e4.mono g5
    refine rd_within (n := 1) rfl e5 wr_facts.2.1 fun G6 g6 => ?_
    have e6 := e5.mono g6
    refine ⟨by show 5 ≤ sizeLine; decide, fun a7 n7 => to_new n7 fun G7 g7 h7 => ?_⟩
    have o2 : t2 ∉ own p A' := e1.out_of nt2
    have o3 : t3 ∉ own p A' := e2.out_of nt3
    have o4 : t4 ∉ own p A' := e3.out_of nt4
    have o5 : l5 ∉ own p A' := e4.out_of n5
    have o7 : a7 ∉ own p A' := e6.out_of n7
    have g47 := g5.trans (g6.trans g7)
    have k2 := g47 _ _ (f4 _ _ o2 (f3 _ _ o2 ht2))
    have k3 := g47 _ _ (f4 _ _ o3 ht3)
    have k4 := g47 _ _ ht4
    have k5 := g7 _ _ (g6 _ _ h5)
    have e7 : EvA K G7 p A' wr3 := e6.mono g7
    have ne2 : t2 ≠ a7 := ne_of_none (g6 _ _ (g5 _ _ (f4 _ _ o2 (f3 _ _ o2 ht2)))) n7
    have ne3 : t3 ≠ a7 := ne_of_none (g6 _ _ (g5 _ _ (f4 _ _ o3 ht3))) n7
    have ne4 : t4 ≠ a7 := ne_of_none (g6 _ _ (g5 _ _ ht4)) n7
    have ne5 : l5 ≠ a7 := ne_of_none (g6 _ _ h5) n7
    have s07 : Same H G7 := (Fra.back g1 ((f2.trans f3).trans f4) new1).trans g47
    obtain ⟨Z, hZ⟩ : ∃ Z, Z = a7 :: own p A' := ⟨_, rfl⟩
    have aZ : a7 ∈ Z := by rw [hZ]; simp
    have outZ : ∀ {x : Addr}, x ≠ a7 → x ∉ own p A' → x ∉ Z := fun h1 h2 => by rw [hZ]; simp [h1, h2]
    have ownZ : ∀ x ∈ own p A', x ∈ Z := fun x hx => by rw [hZ]; exact List.mem_cons_of_mem _ hx
    have domZ : ∀ a ∈ Z, ∃ o, G7 a = some o := fun a ha => by
      rw [hZ] at ha
      rcases List.mem_cons.mp ha with z | z
      · rw [z]; exact ⟨_, h7⟩
      · exact e7.ev.dom a z
    have pr : ∀ {X : Hp} {t : Addr} {a b : Int}, X t = some (.tup [.int a, .int b]) → Dx X (.ref t) (.tup [.int a, .int b]) := fun h => .tup h (.cons (.int _) (.cons (.int _) .nil))
    have offZ : ∀ {X : Hp} {x : Addr} {o : HO}, x ∉ Z → X x = some o → off Z X x = some o := fun n h => by rw [off_out n]; exact h
    have T7 : Tld Z a7 G7 [.ref t2, .ref t3, .ref t4, .ref l5, .int (wr3.within 1)] wrD1 :=
      ⟨h7, .cons (pr (offZ (outZ ne2 o2) k2)) (.cons (pr (offZ (outZ ne3 o3) k3)) (.cons (pr (offZ (outZ ne4 o4) k4)) (.cons (.lst (offZ (outZ ne5 o5) k5) (dxAll_intsD _)) (.cons (.int _) .nil))))⟩
    -- the evening goes on
    refine ⟨_, rfl, .inl ⟨rfl, _, SqL.of h7⟩, iE_of ?_⟩
    refine rd_worst (n := 1) rfl e7 wr_facts.2.1 fun l8 G8 cs8 n8 g8 h8 lc8 hc8 => ?_
    have x8 : Dx (off Z G8) (.ref l8) (aheadD (wr3.ahead 1)) := worst_dx domZ n8 h8 lc8 hc8
    have e8 := e7.mono g8
    refine rd_sing rfl e8 (by decide +kernel) fun G9 f9 e9 => ?_
    rw [wr_facts.1]
    refine rd_now rfl e9 ?_
    refine rd_out (n := 2) rfl e9 wr_facts.2.2 (by decide +kernel) fun G10 f10 e10 => ?_
    have e10 : EvA K G10 p A' wr5 := e10
    have f810 : Fra Z G8 G10 := (f9.trans f10).mono ownZ
    have T10 : Tld Z a7 G10 [.ref t2, .ref t3, .ref t4, .ref l5, .int (wr3.within 1)] wrD1 := ⟨f10 _ _ o7 (f9 _ _ o7 (g8 _ _ h7)), dxAll_mono ((off_mono g8).trans f810.off) T7.all⟩
    have x10 := dx_mono f810.off x8
    have domZ10 : ∀ a ∈ Z, ∃ o, G10 a = some o := fun a ha => by
      rw [hZ] at ha
      rcases List.mem_cons.mp ha with z | z
      · rw [z]; exact ⟨_, T10.at_⟩
      · exact e10.ev.dom a z
    refine rd_tale rfl e10 fun l11 G11 cs11 n11 g11 h11 lc11 hc11 => ?_
    have kind10 := e10.kind
    have x11 : Dx (off Z G11) (.ref l11) (taleDs wr5.tale) := by
      refine .lst (offZ (new_out domZ10 n11) h11) (dxAll_pt (by rw [lc11, List.length_map]) fun i v e => ?_)
      obtain ⟨pt, e1, e2, e3⟩ := hc11 i v e
      refine ⟨pt.toD, by rw [List.getElem?_map, e1]; rfl, part_dx ?_⟩
      have tupZ : ∀ {t : Addr} {xs : List V}, G11 t = some (.tup xs) → t ∉ Z := fun {t xs} ht hz => by
        rw [hZ] at hz
        rcases List.mem_cons.mp hz with z | z
        · rw [z, g11 _ _ T10.at_] at ht; cases ht
        · rcases kind10 t z with ⟨ys, hy⟩ | ⟨C, dx, fs, hy⟩ <;> (rw [g11 _ _ hy] at ht; cases ht)
      cases pt with
      | wish ss n r =>
        obtain ⟨t, b, rfl, h1, h2, h3⟩ := e3 ss n r rfl
        exact ⟨b, offZ (tupZ (off_some h1).2) (off_some h1).2, offZ (new_out domZ10 h3) (off_some h2).2⟩
      | sing o =>
        cases v with
        | ref t => exact offZ (tupZ (off_some (show off [l11] G11 t = _ from e2)).2) (off_some (show off [l11] G11 t = _ from e2)).2
        | _ => exact e2.elim
      | out n =>
        cases v with
        | ref t => exact offZ (tupZ (off_some (show off [l11] G11 t = _ from e2)).2) (off_some (show off [l11] G11 t = _ from e2)).2
        | _ => exact e2.elim
    have T11 := T10.mono g11
    refine ⟨by show 5 ≤ sizeLine; decide, fun a12 n12 => to_new n12 fun G12 g12 h12 => ?_⟩
    have T12 := T11.mono g12
    have domZ11 : ∀ a ∈ Z, ∃ o, G11 a = some o := dom_same g11 domZ10
    have x12 : Dx (off Z G12) (.ref a12) wrD2 := .lst (offZ (new_out domZ11 n12) h12) (.cons (dx_mono (off_mono (g11.trans g12)) x10) (.cons (.int _) (.cons (.int _) (.cons (.int _) (.cons (dx_mono (off_mono g12) x11) .nil)))))
    refine ⟨a7, _, _, rfl, rfl, T12.at_, by show 5 < sizeLine; decide, ?_⟩
    have T13 := T12.snoc aZ x12
    have s012 : Same H G12 := by
      refine (Fra.back s07 ((Fra.of g8).trans f810) fun a ha => ?_).trans (g11.trans g12)
      rw [hZ] at ha
      rcases List.mem_cons.mp ha with z | z
      · rw [z]; exact (Fra.back g1 ((f2.trans f3).trans f4) new1).free (g5.free (g6.free n7))
      · exact new1 a z
    have nHa : H a7 = none := (Fra.back g1 ((f2.trans f3).trans f4) new1).free (g5.free (g6.free n7))
    have s013 : Same H (upd G12 a7 (.lst ([.ref t2, .ref t3, .ref t4, .ref l5, .int (wr3.within 1)] ++ [.ref a12]))) := same_put nHa s012
    have domZ13 : ∀ a ∈ Z, ∃ o, (upd G12 a7 (.lst ([.ref t2, .ref t3, .ref t4, .ref l5, .int (wr3.within 1)] ++ [.ref a12]))) a = some o := dom_put (dom_same g12 domZ11)
    generalize upd G12 a7 (.lst ([.ref t2, .ref t3, .ref t4, .ref l5, .int (wr3.within 1)] ++ [.ref a12])) = G13 at T13 s013 domZ13 ⊢
    -- answers
    refine ⟨_, rfl, .inl ⟨rfl, _, SqL.of T13.at_⟩, iE_of ?_⟩
    refine ⟨by show 2 ≤ sizeLine; decide, fun t14 n14 => to_new n14 fun G14 g14 h14 => ⟨by show 1 ≤ sizeLine; decide, fun l15 n15 => to_new n15 fun G15 g15 h15 => ?_⟩⟩
    refine ⟨3, l15, [.sing (some 0)], rfl, by decide, by decide, ⟨_, SqL.of h15, ⟨show PartAt G15 (.ref t14) (.sing (some 0)) from g15 _ _ h14, trivial⟩, fewP_ok (by decide) rfl⟩, by decide, fun G16 r16 g16 nr16 ans => ?_⟩
    rw [wr_fw] at ans
    obtain ⟨_, dx16, hr16⟩ := ans.resolve_left (fun z => by have := z.1; omega)
    refine ⟨r16, _, dx16, _, _, rfl, hr16, T.cls_Wrong, T.na_Wrong_place, wrF_place _, ?_⟩
    refine ⟨by show 4 ≤ sizeLine; decide, fun l17 n17 => to_new n17 fun G17 g17 h17 => ?_⟩
    refine ⟨l17, [0, 1, 0, 1], 1, rfl, SqL.of h17, ⟨by decide, by unfold SgOk; decide +kernel⟩, ⟨by decide, by decide⟩, fun _ p18 o18 G18 np18 no18 g18 sp18 => ?_, fun ss e => by rw [wr_b1] at e; cases e⟩
    obtain ⟨⟨dx18, hp18⟩, ho18⟩ := sp18
    refine ⟨p18, _, dx18, _, _, rfl, hp18, T.cls_Spaced, T.na_Spaced_order, orF_order _, ?_⟩
    refine ⟨by show 3 ≤ sizeLine; decide, fun l19 n19 => to_new n19 fun G19 g19 h19 => ?_⟩
    refine ⟨l19, [0, 0, 0], 1, rfl, SqL.of h19, ⟨by decide, by unfold SgOk; decide +kernel⟩, ⟨by decide, by decide⟩, fun e => by (rw [wr_b2] at e; cases e), fun ss e p20' o20 G20 np20 no20 g20 sp20 => ?_⟩
    obtain rfl : [0] = ss := Option.some.inj (wr_b2.symm.trans e)
    obtain ⟨⟨dx20, hp20⟩, ho20⟩ := sp20
    refine ⟨p20', _, dx20, _, _, rfl, hp20, T.cls_Barred, T.na_Barred_singers, siF_singers _, ?_⟩
    refine ⟨by show 3 ≤ sizeLine; decide, fun a21 n21 => to_new n21 fun G21 g21 h21 => ?_⟩
    have g1317 : Same G13 G17 := g14.trans (g15.trans (g16.trans g17))
    have g1319 : Same G13 G19 := g1317.trans (g18.trans g19)
    have g1320 : Same G13 G20 := g1319.trans g20
    have g1321 : Same G13 G21 := g1320.trans g21
    have T21 := T13.mono g1321
    have x21 : Dx (off Z G21) (.ref a21) wrD3 := .lst (offZ (new_out (dom_same g1320 domZ13) n21) h21) (.cons (.int _) (.cons (.lst (offZ (new_out (dom_same g1317 domZ13) no18) (g21 _ _ (g20 _ _ (g19 _ _ ho18)))) (dxAll_intsD _)) (.cons (.lst (offZ (new_out (dom_same g1319 domZ13) no20) (g21 _ _ ho20)) (dxAll_intsD _)) .nil)))
    refine ⟨a7, _, _, rfl, rfl, T21.at_, by show 6 < sizeLine; decide, ?_⟩
    have T22 := T21.snoc aZ x21
    have s022 := same_put (o := .lst ([.ref t2, .ref t3, .ref t4, .ref l5, .int (wr3.within 1)] ++ [.ref a12] ++ [.ref a21])) nHa (s013.trans g1321)
    have domZ22 : ∀ a ∈ Z, ∃ o, (upd G21 a7 (.lst ([.ref t2, .ref t3, .ref t4, .ref l5, .int (wr3.within 1)] ++ [.ref a12] ++ [.ref a21]))) a = some o := dom_put (dom_same g1321 domZ13)
    generalize upd G21 a7 (.lst ([.ref t2, .ref t3, .ref t4, .ref l5, .int (wr3.within 1)] ++ [.ref a12] ++ [.ref a21])) = G22 at T22 s022 domZ22 ⊢
    -- the other evening
    refine rd_set0 ?_
    refine rd_new (n := 4) (by decide) (by decide) fun G23 p23 A23 g23 e23 new23 => ?_
    refine iE_of ⟨by show 1 ≤ sizeLine; decide, fun b0 m0 => to_new m0 fun J0 j0 hb0 => ?_⟩
    refine iE_of ⟨by show 2 ≤ sizeLine; decide, fun b1 m1 => to_new m1 fun J1 j1 hb1 => ?_⟩
    refine iE_of ⟨by show 1 ≤ sizeLine; decide, fun b2 m2 => to_new m2 fun J2 j2 hb2 => ?_⟩
    refine iE_of ⟨by show 2 ≤ sizeLine; decide, fun b3 m3 => to_new m3 fun J3 j3 hb3 => ?_⟩
    refine iE_of ⟨by show 1 ≤ sizeLine; decide, fun b4 m4 => to_new m4 fun J4 j4 hb4 => ?_⟩
    refine ⟨by show 5 ≤ sizeLine; decide, fun tt ntt => to_new ntt fun J5 j5 htt => ?_⟩
    have j05 : Same G23 J5 := j0.trans (j1.trans (j2.trans (j3.trans (j4.trans j5))))
    have eJ : EvA K J5 p23 A23 (wo5 0) := e23.mono j05
    have el : ∀ (i : Nat) v, [V.ref b0, .ref b1, .ref b2, .ref b3, .ref b4][i]? = some v → ∃ l, v = .ref l ∧ l ∉ own p23 A23 ∧ J5 l = some (.lst ((wo.getD i []).map V.int)) := fun i v e => by
      match i, e with
      | 0, e => exact ⟨b0, (Option.some.inj e).symm, e23.out_of m0, j5 _ _ (j4 _ _ (j3 _ _ (j2 _ _ (j1 _ _ hb0))))⟩
      | 1, e => exact ⟨b1, (Option.some.inj e).symm, e23.out_of (j0.free m1), j5 _ _ (j4 _ _ (j3 _ _ (j2 _ _ hb1)))⟩
      | 2, e => exact ⟨b2, (Option.some.inj e).symm, e23.out_of (j0.free (j1.free m2)), j5 _ _ (j4 _ _ (j3 _ _ hb2))⟩
      | 3, e => exact ⟨b3, (Option.some.inj e).symm, e23.out_of (j0.free (j1.free (j2.free m3))), j5 _ _ (j4 _ _ hb3)⟩
      | 4, e => exact ⟨b4, (Option.some.inj e).symm, e23.out_of (j0.free (j1.free (j2.free (j3.free m4)))), j5 _ _ hb4⟩
    have ott : tt ∉ own p23 A23 := e23.out_of (j0.free (j1.free (j2.free (j3.free (j4.free ntt)))))
    refine ⟨tt, rfl, ⟨_, SqT.of htt⟩, for_tup (K := K) (a := tt) (xs := [V.ref b0, .ref b1, .ref b2, .ref b3, .ref b4]) (fun i σ H' => ∃ x3 : Option V, σ = [some (.ref p), some (.ref a7), some (.ref p23), x3, none] ∧ Fra (own p23 A23) J5 H' ∧ EvA K H' p23 A23 (wo5 i)) ?_ ?_ ?_ ?_⟩
    · exact ⟨_, rfl, Fra.refl _ _, eJ⟩
    · rintro i σ G _ ⟨x3, rfl, f, _⟩
      exact SqT.of (f _ _ ott htt)
    · rintro i v σ G hv ⟨x3, rfl, f, e⟩
      obtain ⟨l, rfl, ol, hl⟩ := el i v hv
      have hi : i < 5 := (List.getElem?_eq_some_iff.mp hv).1
      obtain ⟨c1, c2, c3⟩ := wo_can i hi
      refine rd_wishV (ss := wo.getD i []) (j := 3) rfl rfl e (by rw [off_out ol]; exact f _ _ ol hl) c1 c2 c3 fun G' _ f' e' _ _ => ?_
      exact ⟨_, rfl, f.trans f', e'⟩
    rintro σ W ⟨x3, rfl, fW, eW⟩
    have eW : EvA K W p23 A23 (wo5 5) := eW
    have s22W : Same G22 W := Fra.back (g23.trans j05) fW new23
    have TW := T22.mono s22W
    have domW := dom_same s22W domZ22
    refine ⟨_, rfl, .inl ⟨rfl, _, SqL.of TW.at_⟩, 5, rfl, by decide, by decide, fun D24 nD24 => lc_all walk_range (fun _ _ _ h => h) trivial (fun j X y => Dx (off Z X) y (.lst [aheadD ((wo5 5).ahead (0 + (j : Int))), .int ((wo5 5).within (0 + (j : Int)))])) (fun i X1 X2 y sx hx => dx_mono (off_mono sx) hx) nD24 (by decide) ?_ ?_ gname_mono⟩
    · rintro j v X1 X2 acc hj sx hD ⟨rfl, rfl⟩ k hk
      refine ⟨rfl, iE_of ?_⟩
      have dom1 : ∀ a ∈ D24 :: Z, ∃ o, X2 a = some o := fun a ha => by
        rcases List.mem_cons.mp ha with z | z
        · rw [z]; exact ⟨_, hD⟩
        · exact dom_same sx domW a z
      refine rd_worst (n := 0 + (j : Int)) rfl (eW.mono sx) (wo_waits j hj) (fun l X3 cs nl x3 hl lc hc => ?_) (fun R h => ⟨_, rfl, h⟩)
      refine rd_within (n := 0 + (j : Int)) rfl ((eW.mono sx).mono x3) (wo_waits j hj) (fun X4 x4 => ?_) (fun R h => ⟨_, rfl, h⟩)
      refine ⟨by show 2 ≤ sizeLine; decide, fun a na => hk _ _ ((x3.trans x4).trans (Same.new na)) ?_⟩
      have y1 : Dx (off (D24 :: Z) X3) (.ref l) (aheadD ((wo5 5).ahead (0 + (j : Int)))) := worst_dx dom1 nl hl lc hc
      have oo : ∀ Y : Hp, Same (off (D24 :: Z) Y) (off Z (off [D24] Y)) := fun Y b o h => by
        obtain ⟨h1, h2⟩ := off_some h
        rw [off_out (fun z => h1 (List.mem_cons_of_mem _ z)), off_out (fun z => h1 (by rw [List.mem_singleton.mp z]; simp))]; exact h2
      refine dx_mono (oo _) (.lst ?_ (.cons (dx_mono (off_mono (x4.trans (Same.new na))) y1) (.cons (.int _) .nil)))
      rw [off_out (new_out (dom_same (x3.trans x4) dom1) na), upd_same]
    intro vs24 H24 s24 h24 l24 x24
    have T24 := TW.mono s24
    have y24 : Dx (off Z H24) (.ref D24) wrD4 := by
      refine .lst (offZ (new_out domW nD24) h24) ?_
      have z := dxAll_fun (H := off Z H24) (f := fun j : Nat => D.lst [aheadD ((wo5 5).ahead (0 + (j : Int))), .int ((wo5 5).within (0 + (j : Int)))]) (ys := vs24) fun i y e => dx_mono (off_mono (off_le _ _)) (x24 i y e)
      rw [l24] at z
      exact z
    refine ⟨a7, _, _, rfl, rfl, T24.at_, by show 7 < sizeLine; decide, ?_⟩
    have T25 := T24.snoc aZ y24
    have s025 := same_put (o := .lst ([.ref t2, .ref t3, .ref t4, .ref l5, .int (wr3.within 1)] ++ [.ref a12] ++ [.ref a21] ++ [.ref D24])) nHa (s022.trans (s22W.trans s24))
    have domZ25 : ∀ a ∈ Z, ∃ o, (upd H24 a7 (.lst ([.ref t2, .ref t3, .ref t4, .ref l5, .int (wr3.within 1)] ++ [.ref a12] ++ [.ref a21] ++ [.ref D24]))) a = some o := dom_put (dom_same s24 domW)
    generalize upd H24 a7 (.lst ([.ref t2, .ref t3, .ref t4, .ref l5, .int (wr3.within 1)] ++ [.ref a12] ++ [.ref a21] ++ [.ref D24])) = G25 at T25 s025 domZ25 ⊢
    -- gaps
    have rows : ∀ (X : Hp) (c0 c1 c2 : Addr), X c0 = some (.lst [V.int 0]) → X c1 = some (.lst [V.int 1]) → X c2 = some (.lst [V.int 0]) → Rows K X [.ref c0, .ref c1, .ref c2] wrR := fun X c0 c1 c2 q0 q1 q2 => by
      refine ⟨rfl, fun i v e => ?_⟩
      match i, e with
      | 0, e => exact ⟨c0, (Option.some.inj e).symm, SqL.of q0⟩
      | 1, e => exact ⟨c1, (Option.some.inj e).symm, SqL.of q1⟩
      | 2, e => exact ⟨c2, (Option.some.inj e).symm, SqL.of q2⟩
    refine ⟨_, rfl, .inl ⟨rfl, _, SqL.of T25.at_⟩, iE_of ?_⟩
    refine ⟨by show 1 ≤ sizeLine; decide, fun c0 m0 => to_new m0 fun U0 u0 hc0 => ⟨by show 1 ≤ sizeLine; decide, fun c1 m1 => to_new m1 fun U1 u1 hc1 => ⟨by show 1 ≤ sizeLine; decide, fun c2 m2 => to_new m2 fun U2 u2 hc2 => ⟨by show 3 ≤ sizeLine; decide, fun c3 m3 => to_new m3 fun U3 u3 hc3 => ⟨by show 3 ≤ sizeLine; decide, fun c4 m4 => to_new m4 fun U4 u4 hc4 => ?_⟩⟩⟩⟩⟩
    refine ⟨c3, c4, _, wrR, [0, 1, 2], rfl, SqL.of (u4 _ _ hc3), rows U4 c0 c1 c2 (u4 _ _ (u3 _ _ (u2 _ _ (u1 _ _ hc0)))) (u4 _ _ (u3 _ _ (u2 _ _ hc1))) (u4 _ _ (u3 _ _ hc2)), wrR_ok, by decide, SqL.of hc4, by show [0, 1, 2].Perm (upto 3); exact List.Perm.refl _, fun U5 u5 => ?_⟩
    rw [wr_lg]
    refine ⟨by show 4 ≤ sizeLine; decide, fun c6 m6 => to_new m6 fun U6 u6 hc6 => ?_⟩
    refine ⟨c6, [0, 1, 0, 1], rfl, SqL.of hc6, ⟨by decide, by unfold SgOk; decide +kernel⟩, fun U7 u7 => ?_⟩
    rw [wr_wd]
    refine ⟨by show 1 ≤ sizeLine; decide, fun d0 k0 => to_new k0 fun V0 v0 hd0 => ⟨by show 1 ≤ sizeLine; decide, fun d1 k1 => to_new k1 fun V1 v1 hd1 => ⟨by show 1 ≤ sizeLine; decide, fun d2 k2 => to_new k2 fun V2 v2 hd2 => ⟨by show 3 ≤ sizeLine; decide, fun d3 k3 => to_new k3 fun V3 v3 hd3 => ?_⟩⟩⟩⟩
    refine ⟨d3, _, wrR, rfl, SqL.of hd3, rows V3 d0 d1 d2 (v3 _ _ (v2 _ _ (v1 _ _ hd0))) (v3 _ _ (v2 _ _ hd1)) (v3 _ _ hd2), wrR_ok, by decide, fun t8 b8 V4 nt8 nb8 v4 ht8 hb8 => ?_⟩
    rw [wr_wf] at ht8
    refine ⟨by show 3 ≤ sizeLine; decide, fun a9 n9 => to_new n9 fun V5 v5 ha9 => ?_⟩
    have g3 : Same G25 V3 := (u0.trans (u1.trans (u2.trans (u3.trans (u4.trans (u5.trans (u6.trans u7))))))).trans (v0.trans (v1.trans (v2.trans v3)))
    have T30 := T25.mono (g3.trans (v4.trans v5))
    have x30 : Dx (off Z V5) (.ref a9) wrD5 := .lst (offZ (new_out (dom_same (g3.trans v4) domZ25) n9) ha9) (.cons (.int 1) (.cons (.int 1) (.cons (.tup (offZ (new_out (dom_same g3 domZ25) nt8) (v5 _ _ ht8)) (.cons (.int 1) (.cons (.lst (offZ (new_out (dom_same g3 domZ25) nb8) (v5 _ _ hb8)) (dxAll_intsD _)) .nil))) .nil)))
    refine ⟨a7, _, _, rfl, rfl, T30.at_, by show 8 < sizeLine; decide, ?_⟩
    have T31 := T30.snoc aZ x30
    have s031 := same_put (o := .lst ([.ref t2, .ref t3, .ref t4, .ref l5, .int (wr3.within 1)] ++ [.ref a12] ++ [.ref a21] ++ [.ref D24] ++ [.ref a9])) nHa (s025.trans (g3.trans (v4.trans v5)))
    exact ⟨_, rfl, _, wrAll, rfl, .lst T31.at_ (dxAll_mono (off_le _ _) T31.all), wr_all.1, wr_all.2.1, wr_all.2.2, fun H' s' => q H' (s031.trans s')⟩
end
end Song

/-! ### H7: _law_alike_right of k13 -/
namespace Song
open PySem L2
theorem cdivS {i j : Int} (h0 : 0 < j) (h1 : j < 1000) : CDivW i j := ⟨h0, by
  have h : j.natAbs < 2 ^ 10 := by
    have : (2 : Nat) ^ 10 = 1024 := by decide
    omega
  exact Nat.lt_trans ((Nat.log2_lt (by omega)).mpr h) (by decide)⟩
/-- the songs while they are built: singers below i are done, singer i has j -/
structure Bld (songs : List Int) (o r i j : Nat) : Prop where
  len : songs.length = i * o + min i r + j
  cnt : ∀ s : Int, songs.count s = if 0 ≤ s ∧ s < i then (o + if s < r then 1 else 0) else if s = i then j else 0
theorem Bld.nil (o r : Nat) : Bld [] o r 0 0 := ⟨by simp, fun s => by
  rw [if_neg (by omega)]; split <;> rfl⟩
theorem Bld.ins {songs : List Int} {o r i j : Nat} (b : Bld songs o r i j) (k : Nat) : Bld (songs.take k ++ (i : Int) :: songs.drop k) o r i (j + 1) := by
  refine ⟨?_, fun s => ?_⟩
  · have := congrArg List.length (List.take_append_drop k songs)
    rw [List.length_append] at this
    rw [List.length_append, List.length_cons]
    have := b.len
    omega
  · rw [count_ins, b.cnt s]
    by_cases h : 0 ≤ s ∧ s < i
    · have e : ¬ s = (i : Int) := by omega
      rw [if_pos h, if_pos h, if_neg e]
      rfl
    · rw [if_neg h, if_neg h]
      by_cases e : s = i
      · rw [if_pos e, if_pos e, if_pos e]
      · rw [if_neg e, if_neg e, if_neg e]
theorem Bld.next {songs : List Int} {o r i j : Nat} (b : Bld songs o r i j) (hj : j = o + if i < r then 1 else 0) : Bld songs o r (i + 1) 0 := by
  refine ⟨?_, fun s => ?_⟩
  · rw [b.len, Nat.add_mul, hj]
    split <;> omega
  · rw [b.cnt s]
    by_cases h : 0 ≤ s ∧ s < i
    · have h' : 0 ≤ s ∧ s < ((i + 1 : Nat) : Int) := by omega
      rw [if_pos h, if_pos h']
    · rw [if_neg h]
      by_cases e : s = i
      · have h' : 0 ≤ s ∧ s < ((i + 1 : Nat) : Int) := by omega
        rw [if_pos e, if_pos h', hj]
        by_cases c : i < r
        · have c' : s < (r : Int) := by omega
          rw [if_pos c, if_pos c']
        · have c' : ¬ s < (r : Int) := by omega
          rw [if_neg c, if_neg c']
      · have h' : ¬ (0 ≤ s ∧ s < ((i + 1 : Nat) : Int)) := by omega
        rw [if_neg e, if_neg h']
        split <;> rfl
theorem Bld.alike {songs : List Int} {o r m : Nat} (b : Bld songs o r m 0) (r1 : 1 ≤ r) (rm : r < m) (o1 : 1 ≤ o) (m6 : m ≤ 6) (h24 : m * o + r ≤ 24) : Alike songs m o r := by
  have hl := b.len
  rw [Nat.min_eq_right (by omega)] at hl
  refine ⟨by omega, fun s h0 h1 => ?_, fun s hs => ?_, r1, rm, o1, m6, by omega⟩
  · rw [b.cnt s, if_pos ⟨h0, h1⟩]
  · have := List.count_pos_iff.mpr hs
    rw [b.cnt s] at this
    by_cases h : 0 ≤ s ∧ s < m
    · exact h
    · rw [if_neg h] at this
      split at this <;> omega
theorem Alike.shows {songs : List Int} {m o r : Nat} (a : Alike songs m o r) : showsSp songs (orderFor songs ((m : Int) - 1)) ((m : Int) - 1) = true := by
  have hm := a.rm
  obtain ⟨p, s⟩ := order_ok (by omega) a.ok a.none
  unfold showsSp
  rw [List.isPerm_iff.mpr p, (keeps_iff (by omega) (perm_in p)).mpr s]; rfl
theorem Alike.hides {songs : List Int} {m o r : Nat} (a : Alike songs m o r) : showsSp songs (orderFor songs ((m : Int) - 1)) (m : Int) = false := by
  have hm := a.rm
  obtain ⟨p, s⟩ := order_ok (by omega) a.ok a.none
  unfold showsSp
  rw [List.isPerm_iff.mpr p, Bool.true_and]
  cases e : keepsP songs (orderFor songs ((m : Int) - 1)) (m : Int) with
  | false => rfl
  | true => exact absurd ((keeps_iff (by omega) (perm_in p)).mp e) (a.spc p)
theorem alike_least {songs : List Int} {m o r : Nat} (a : Alike songs m o r) : ∃ g, least (pick (singles songs) (orderFor songs ((m : Int) - 1))) = some g ∧ (m : Int) - 1 ≤ g := by
  have hm := a.rm
  obtain ⟨p, s⟩ := order_ok (by omega) a.ok a.none
  have k1 := (keeps_iff (by omega) (perm_in p)).mpr s
  unfold keepsP at k1
  cases e : Song.least (pick (singles songs) (orderFor songs ((m : Int) - 1))) with
  | none =>
    have k2 : keepsP songs (orderFor songs ((m : Int) - 1)) (m : Int) = true := by unfold keepsP; rw [e]
    exact absurd ((keeps_iff (by omega) (perm_in p)).mp k2) (a.spc p)
  | some g =>
    rw [e] at k1
    exact ⟨g, rfl, of_decide_eq_true k1⟩
theorem al_c1 : widest [0, 0, 0, 1, 1, 1, 2, 2, 3, 4] = some 3 := by decide +kernel
theorem al_c2 : widest [0, 0, 0, 1, 1, 1, 2, 2, 2, 3] = some 2 := by decide +kernel
theorem al_c3 : barring [0, 1, 2, 0, 1, 2, 0, 1, 2, 3] 3 = some [0, 1, 2] := by decide +kernel
section
variable {P : Program} {w : World} {K : PySem.W.Frag} {mg : Str → Option Value} {base : Heap}
theorem sc__law_alike_right : FnScope ["_law_many", "_law_value_here", "_law_often", "_law_more", "_law_songs", "_law_singer", "_law_turn", "_law_found", "_law_other", "_law_order", "_law_three"] ["_law_many", "_law_value_here"] (defScope s__law_alike_right) := ⟨rfl, rfl, rfl, by decide +kernel, rfl, by decide +kernel, by decide +kernel⟩
def sp_alike : Sp := fun vs H Q _ => ∃ (many value : Int), vs = [.int many, .int value] ∧ 2 ≤ many ∧ many ≤ 6 ∧ 0 ≤ value ∧ ∀ H', Same H H' → Q (.bl true) H'
theorem fn__law_alike_right (T : Tx K mg) : Fn P w K mg base "_law_alike_right" 7 sp_alike := by
  obtain ⟨fd, F⟩ := T.d__law_alike_right
  refine ⟨_, fd, _, F.ok (CX := CX0) sc__law_alike_right (fun vs H Q E h => ?_) (fun cdv A outer s H vs Q E hr h => ?_), T.g__law_alike_right, F.kp, F.bindsN fun _ _ _ _ _ _ us hl => match us, hl with | [_, _], _ => rfl⟩
  · obtain ⟨many, value, rfl, _⟩ := h; rfl
  · obtain ⟨many, value, rfl, h2, h6, hv, q⟩ := h
    obtain ⟨m, rfl⟩ : ∃ m : Nat, many = m := ⟨many.toNat, by omega⟩
    refine ⟨_, PSs.nox (pss_cons (ps_set (i := 2) sc__law_alike_right.nd rfl (by first | exact Or.inl rfl | exact Or.inr rfl) (pe_op op_add pe_int (pe_op op_mod (pv 1) (pe_op op_sub (pe_op op_fdivW pe_int (pv 0)) pe_int))))
      (pss_cons (ps_set (i := 3) sc__law_alike_right.nd rfl (by first | exact Or.inl rfl | exact Or.inr rfl) (pe_op op_add pe_int (pe_op op_mod (pe_op op_fdivW (pv 1) pe_int) (pe_op op_sub (pv 0) pe_int))))
      (pss_cons (ps_set (i := 4) sc__law_alike_right.nd rfl (by first | exact Or.inl rfl | exact Or.inr rfl) (pe_iE (pe_lst pa_nil)))
      (pss_cons (ps_for PassesOwn.never rfl (pi_range1 (by rfl) T.range (pa_cons (pv 0) pa_nil)) (pg_name (i := 5) sc__law_alike_right.nd rfl (by first | exact Or.inl rfl | exact Or.inr rfl))
      (pss_one (ps_for PassesOwn.never rfl (pi_range1 (by rfl) T.range (pa_cons (pe_op op_add (pv 2) (pe_callTy call_int1 (by rfl) T.int (by decide +kernel) (pa_cons (pe_cmpR op_lt (pv 5) (pv 3) (nomark _)) pa_nil))) pa_nil)) (pg_name (i := 6) sc__law_alike_right.nd rfl (by first | exact Or.inl rfl | exact Or.inr rfl))
      (pss_one (ps_expr (show PE _ _ (tBM K _ _ _ _) from pe_bm PySem.F.plainAttrs_list PySem.F.slot_list_insert PySem.F.type_list_insert mt_insert (pv 4) (pa_cons (pe_op op_mod (pe_op op_fdivW (pv 1) (pe_op op_add (pe_op op_add (pe_op op_mulO pe_int (pv 6)) (pv 5)) pe_int)) (pe_op op_add (pe_callB (show CallR _ _ (rLenQ K) from call_len_seq) (by rfl) T.len (by decide +kernel) (pa_cons (pv 4) pa_nil)) pe_int)) (pa_cons (pv 5) pa_nil))))))))
      (pss_cons (ps_par (i := 7) (j := 8) (by rfl) sc__law_alike_right.nd rfl rfl (by decide) rfl rfl (pa_cons (pe_fn (fn_spaced T) (hr.mono (by first | decide | omega)) (by rfl) (pa_cons (pv 4) (pa_cons (pe_op op_sub (pv 0) pe_int) pa_nil))) (pa_cons (pe_fn (fn_spaced T) (hr.mono (by first | decide | omega)) (by rfl) (pa_cons (pv 4) (pa_cons (pv 0) pa_nil))) pa_nil)) (by rfl))
      (pss_cons (ps_if (PW.pt (pw_or (pt_cmpR op_ne (pe_fn (fn_widest T) (hr.mono (by first | decide | omega)) (by rfl) (pa_cons (pv 4) pa_nil)) (pe_op op_sub (pv 0) pe_int) (nomark _)) (pw_or (pt_not (pt_val (pe_callB (show CallR _ _ (rIsi K) from call_isi) (by rfl) T.isinstance (by decide +kernel) (pa_cons (pv 7) (pa_cons (pe_gc T.g_Spaced (by rfl)) pa_nil))))) (pw_or1 (pt_not (pt_val (pe_callB (show CallR _ _ (rIsi K) from call_isi) (by rfl) T.isinstance (by decide +kernel) (pa_cons (pv 8) (pa_cons (pe_gc T.g_Barred (by rfl)) pa_nil))))))))) (pss_one (ps_ret pe_bl)) pss_nil)
      (pss_cons (ps_if (PW.pt (pw_or (pt_cmpR op_notBl (pe_me (me_Spaced_shows T) (hr.mono (by first | decide | omega)) (pv 7) (pa_cons (pv 4) (pa_cons (pe_op op_sub (pv 0) pe_int) pa_nil))) pe_bl (nomark _)) (pw_or1 (pt_cmpR op_notBl (pe_me (me_Barred_shows T) (hr.mono (by first | decide | omega)) (pv 8) (pa_cons (pv 4) (pa_cons (pv 0) pa_nil))) pe_bl (nomark _))))) (pss_one (ps_ret pe_bl)) pss_nil)
      (pss_cons (ps_setLc (i := 9) (own := [("_law_singer", 5)]) (g := (gName 5)) (tt := tYes) (by rfl) sc__law_alike_right.nd rfl rfl (sw_true rfl rfl rfl (by decide +kernel)) (show PI _ _ _ (iList K _) from pi_list (pv 4)) (blkOk_by (by kernel_rfl)) (fun _ _ _ _ _ => (pg_name (i := 5) sc__law_alike_right.nd rfl (by first | exact Or.inl rfl | exact Or.inr rfl))) (fun _ _ _ _ _ => pts_nil) (fun _ _ _ _ _ => (pe_iE (pe_lst (pa_cons (pv 5) pa_nil)))))
      (pss_cons (ps_if (PW.pt (pw_or (pt_cmpR op_lt (pe_fn (fn_least_gap T) (hr.mono (by first | decide | omega)) (by rfl) (pa_cons (pv 9) (pa_cons (show PE _ _ (tFld K _ _) from pe_fld (pv 7) rfl) pa_nil))) (pe_op op_sub (pv 0) pe_int) (nomark _)) (pw_or1 (pt_cmpR op_notBl (pe_me (me_Spaced_shows T) (hr.mono (by first | decide | omega)) (pv 7) (pa_cons (pv 4) (pa_cons (pv 0) pa_nil))) pe_bl (nomark _))))) (pss_one (ps_ret pe_bl)) pss_nil)
      (pss_cons (ps_if (PW.pt (pw_or (pt_cmpR op_ne (pe_fn (fn_widest T) (hr.mono (by first | decide | omega)) (by rfl) (pa_cons (pe_op op_cat (pe_op op_cat (pe_op op_cat (pe_iE (pe_op op_rep (pe_lst (pa_cons pe_int pa_nil)) pe_int)) (pe_iE (pe_op op_rep (pe_lst (pa_cons pe_int pa_nil)) pe_int))) (pe_iE (pe_op op_rep (pe_lst (pa_cons pe_int pa_nil)) pe_int))) (pe_iE (pe_lst (pa_cons pe_int (pa_cons pe_int pa_nil))))) pa_nil)) pe_int (nomark _)) (pw_or1 (pt_cmpR op_ne (pe_fn (fn_widest T) (hr.mono (by first | decide | omega)) (by rfl) (pa_cons (pe_op op_cat (pe_op op_cat (pe_op op_cat (pe_iE (pe_op op_rep (pe_lst (pa_cons pe_int pa_nil)) pe_int)) (pe_iE (pe_op op_rep (pe_lst (pa_cons pe_int pa_nil)) pe_int))) (pe_iE (pe_op op_rep (pe_lst (pa_cons pe_int pa_nil)) pe_int))) (pe_iE (pe_lst (pa_cons pe_int pa_nil)))) pa_nil)) pe_int (nomark _))))) (pss_one (ps_ret pe_bl)) pss_nil)
      (pss_cons (ps_set (i := 10) sc__law_alike_right.nd rfl (by first | exact Or.inl rfl | exact Or.inr rfl) (pe_op op_cat (pe_iE (pe_op op_rep (pe_lst (pa_cons pe_int (pa_cons pe_int (pa_cons pe_int pa_nil)))) pe_int)) (pe_iE (pe_lst (pa_cons pe_int pa_nil)))))
      (pss_cons (ps_set (i := 8) sc__law_alike_right.nd rfl (by first | exact Or.inl rfl | exact Or.inr rfl) (pe_fn (fn_spaced T) (hr.mono (by first | decide | omega)) (by rfl) (pa_cons (pv 10) (pa_cons pe_int pa_nil))))
      (pss_one (ps_ret (pe_and (pe_callB (show CallR _ _ (rIsi K) from call_isi) (by rfl) T.isinstance (by decide +kernel) (pa_cons (pv 8) (pa_cons (pe_gc T.g_Barred (by rfl)) pa_nil))) (pe_one (pe_cmpR (show OpR _ _ (rEqD K) from op_eqD hr.units) (show PE _ _ (tFld K _ _) from pe_fld (pv 8) rfl) (pe_iE (pe_lst (pa_cons pe_int (pa_cons pe_int (pa_cons pe_int pa_nil))))) (nomark _)))))))))))))))))), ?_⟩
    have hd : (0 : Int) < 24 / (m : Int) - 1 := by
      have : m = 2 ∨ m = 3 ∨ m = 4 ∨ m = 5 ∨ m = 6 := by omega
      rcases this with rfl | rfl | rfl | rfl | rfl <;> decide
    refine ⟨_, rfl, _, rfl, _, _, rfl, rfl, cdivS (by omega) (by omega), _, _, rfl, rfl, _, _, rfl, rfl, hd, _, _, rfl, rfl, ?_⟩
    refine ⟨_, rfl, _, _, rfl, rfl, cdivS (by decide) (by decide), _, rfl, _, _, rfl, rfl, _, _, rfl, rfl, (show (0 : Int) < (m : Int) - 1 by omega), _, _, rfl, rfl, ?_⟩
    have o0 := Int.emod_nonneg value (show (24 / (m : Int) - 1) ≠ 0 by omega)
    have o9 := Int.emod_lt_of_pos value hd
    have r0 := Int.emod_nonneg (value / 13) (show ((m : Int) - 1) ≠ 0 by omega)
    have r9 := Int.emod_lt_of_pos (value / 13) (show (0 : Int) < (m : Int) - 1 by omega)
    obtain ⟨o, eo⟩ : ∃ o : Nat, 1 + value % (24 / (m : Int) - 1) = o := ⟨(1 + value % (24 / (m : Int) - 1)).toNat, by omega⟩
    obtain ⟨r, er⟩ : ∃ r : Nat, 1 + value / 13 % ((m : Int) - 1) = r := ⟨(1 + value / 13 % ((m : Int) - 1)).toNat, by omega⟩
    dsimp only
    rw [eo, er]
    have hmo : m * o + r ≤ 24 := by
      have : m = 2 ∨ m = 3 ∨ m = 4 ∨ m = 5 ∨ m = 6 := by omega
      rcases this with rfl | rfl | rfl | rfl | rfl
      · rw [show (24 : Int) / ((2 : Nat) : Int) - 1 = 11 by decide] at *; omega
      · rw [show (24 : Int) / ((3 : Nat) : Int) - 1 = 7 by decide] at *; omega
      · rw [show (24 : Int) / ((4 : Nat) : Int) - 1 = 5 by decide] at *; omega
      · rw [show (24 : Int) / ((5 : Nat) : Int) - 1 = 3 by decide] at *; omega
      · rw [show (24 : Int) / ((6 : Nat) : Int) - 1 = 3 by decide] at *; omega
    have o1 : 1 ≤ o := by omega
    have r1 : 1 ≤ r := by omega
    have rm : r < m := by omega
    have om : o ≤ m * o := Nat.le_mul_of_pos_left o (by omega)
    refine iE_of ⟨Nat.zero_le _, fun l nl => to_new nl fun H1 s1 h1 => ?_⟩
    refine ⟨_, rfl, m, rfl, by omega, by omega, for_range (lo := 0) (fun i σ H' => ∃ (x5 x6 : Option V) (songs : List Int), σ = [some (.int m), some (.int value), some (.int o), some (.int r), some (.ref l), x5, x6, none, none, none, none] ∧ Fra [l] H1 H' ∧ H' l = some (.lst (songs.map V.int)) ∧ Bld songs o r i 0) ?_ ?_ ?_⟩
    · exact ⟨_, _, [], rfl, Fra.refl _ _, h1, Bld.nil o r⟩
    · rintro i σ G hi ⟨x5, x6, songs, rfl, f, hl, b⟩
      have hi : i < m := hi
      refine ⟨_, rfl, _, rfl, _, rfl, _, _, rfl, rfl, .inr ⟨_, rfl, _, _, rfl, rfl, (o : Int) + (if decide (0 + (i : Int) < (r : Int)) = true then 1 else 0), rfl, by split <;> omega, by split <;> omega, ?_⟩⟩
      have en : ((o : Int) + (if decide (0 + (i : Int) < (r : Int)) = true then 1 else 0)).toNat = o + if i < r then 1 else 0 := by
        by_cases c : i < r
        · rw [if_pos c, if_pos (decide_eq_true (by omega))]; omega
        · rw [if_neg c, if_neg (by simp; omega)]; omega
      have hio : i * o ≤ m * o := Nat.mul_le_mul_right o (by omega)
      have hio2 : (i + 1) * o ≤ m * o := Nat.mul_le_mul_right o (by omega)
      rw [Nat.add_mul, Nat.one_mul] at hio2
      refine for_range (lo := 0) (fun j σ H' => ∃ (x6 : Option V) (songs : List Int), σ = [some (.int m), some (.int value), some (.int o), some (.int r), some (.ref l), some (.int (0 + (i : Int))), x6, none, none, none, none] ∧ Fra [l] H1 H' ∧ H' l = some (.lst (songs.map V.int)) ∧ Bld songs o r i j) ?_ ?_ ?_
      · exact ⟨_, songs, rfl, f, hl, b⟩
      · rintro j σ U hj ⟨x6, ss, rfl, fu, hu, bu⟩
        rw [en] at hj
        have hj : j ≤ o := by split at hj <;> omega
        have lu := bu.len
        have l30 : ss.length ≤ 60 := by omega
        have pos : (0 : Int) < (((ss.map V.int).length : Nat) : Int) + 1 := by omega
        refine ⟨_, rfl, .inl ⟨rfl, _, SqL.of hu⟩, _, rfl, _, rfl, _, _, rfl, rfl, mulS (.inl (by decide)), _, rfl, _, _, rfl, rfl, _, _, rfl, rfl, _, _, rfl, rfl, cdivS (by omega) (by omega), _, rfl, l, _, rfl, .inl (SqL.of hu), _, _, rfl, rfl, _, _, rfl, rfl, pos, _, rfl, ?_⟩
        have m0 := Int.emod_nonneg (value / (7 * (0 + (j : Int)) + (0 + (i : Int)) + 2)) (show ((((ss.map V.int).length : Nat) : Int) + 1) ≠ 0 by omega)
        have m1 := Int.emod_lt_of_pos (value / (7 * (0 + (j : Int)) + (0 + (i : Int)) + 2)) pos
        rw [List.length_map] at m1
        refine ⟨l, _, _, _, rfl, rfl, hu, by rw [List.length_map]; exact lt_line (by omega), m0, by rw [List.length_map]; omega, ?_⟩
        refine ⟨_, ss.take (value / (7 * (0 + (j : Int)) + (0 + (i : Int)) + 2) % ((((ss.map V.int).length : Nat) : Int) + 1)).toNat ++ (i : Int) :: ss.drop (value / (7 * (0 + (j : Int)) + (0 + (i : Int)) + 2) % ((((ss.map V.int).length : Nat) : Int) + 1)).toNat, rfl, fu.trans (Fra.put (by simp)), ?_, bu.ins _⟩
        rw [upd_same, List.map_append, List.map_cons, List.map_take, List.map_drop, List.append_assoc, show (0 + (i : Int)) = (i : Int) by omega]; rfl
      · rintro σ U ⟨x6, ss, rfl, fu, hu, bu⟩
        rw [en] at bu
        exact ⟨_, _, ss, rfl, fu, hu, bu.next rfl⟩
    rintro σ G ⟨x5, x6, songs, rfl, f, hl, b⟩
    have a : Alike songs m o r := Bld.alike b r1 rm o1 (by omega) hmo
    have l24 := a.l24
    have hS : SongsOk songs := ⟨l24, a.ok⟩
    have sG : Same H G := (Fra.back s1 f (fun x hx => by rw [List.mem_singleton.mp hx]; exact nl))
    have gk1 : GapOk ((m : Int) - 1) := ⟨by omega, by omega⟩
    have gk : GapOk (m : Int) := ⟨by omega, by omega⟩
    refine ⟨_, rfl, _, rfl, _, _, rfl, rfl, l, songs, (m : Int) - 1, rfl, SqL.of hl, hS, gk1, fun _ pf lf H2 npf nlf s2 spf => ?_, fun ss e => absurd e (by rw [a.none]; simp)⟩
    refine ⟨_, rfl, _, rfl, l, songs, m, rfl, SqL.of (s2 _ _ hl), hS, gk, fun e => absurd e a.some, fun ss eb pb lb H3 npb nlb s3 bab => ?_⟩
    have spf := spf.mono s3
    obtain ⟨⟨dxf, hpf⟩, hlf⟩ := id spf
    obtain ⟨⟨dxb, hpb⟩, hlb⟩ := id bab
    have hl3 := s3 _ _ (s2 _ _ hl)
    have sG3 : Same G H3 := s2.trans s3
    refine ⟨_, _, rfl, ?_⟩
    refine ⟨_, rfl, l, songs, rfl, SqL.of hl3, hS, fun H4 s4 => ?_⟩
    rw [a.widest]
    refine ⟨_, rfl, _, _, rfl, rfl, rfl, false, by simp [optV], iteF ?_⟩
    refine ⟨_, rfl, _, _, _, _, _, rfl, .own _, ty_ins (s4 _ _ hpf) T.cls_Spaced T.ic_Spaced, T.ki_Spaced_Spaced, _, rfl, iteF ?_⟩
    refine ⟨_, rfl, _, _, _, _, _, rfl, .own _, ty_ins (s4 _ _ hpb) T.cls_Barred T.ic_Barred, T.ki_Barred_Barred, _, rfl, iteF ?_⟩
    have hl4 := s4 _ _ hl3
    have spf4 := spf.mono s4
    have bab4 := bab.mono s4
    refine ⟨_, rfl, pf, dxf, _, rfl, s4 _ _ hpf, orF_shows _, _, rfl, _, rfl, _, _, rfl, rfl, pf, lf, l, songs, _, (m : Int) - 1, rfl, spf4, SqL.of hl4, by omega, fun H5 s5 => ?_⟩
    rw [a.shows]
    refine ⟨_, _, rfl, rfl, _, rfl, iteF ?_⟩
    have ssl : ss.length ≤ 900 := by
      have h1 := barring_bars eb
      have : ss = [ss.headD 0] ∨ ss = full songs m := by
        unfold barring at eb
        cases ef : (sng songs).find? fun s => barsP songs m [s] with
        | some s => rw [ef] at eb; rw [← Option.some.inj eb]; exact .inl rfl
        | none =>
          rw [ef] at eb
          dsimp only at eb
          split at eb
          · exact .inr (Option.some.inj eb).symm
          · cases eb
      rcases this with z | z
      · rw [z]; simp
      · rw [z]
        refine Nat.le_trans (List.length_filter_le _ _) (Nat.le_trans (List.length_filter_le _ _) ?_)
        rw [upto_len]; decide
    refine ⟨_, rfl, pb, dxb, _, rfl, s5 _ _ (s4 _ _ hpb), siF_shows _, _, rfl, _, rfl, pb, lb, l, songs, ss, m, rfl, bab4.mono s5, SqL.of (s5 _ _ hl4), by omega, gk, ssl, fun H6 s6 => ?_⟩
    rw [barring_bars eb]
    refine ⟨_, _, rfl, rfl, _, rfl, iteF ?_⟩
    have hl6 := s6 _ _ (s5 _ _ hl4)
    have s36 := s4.trans (s5.trans s6)
    refine ⟨_, rfl, l, rfl, ⟨_, SqL.of hl6⟩, fun D7 nD7 => lc_new walk_list (fun _ _ _ _ h => h.1) sqL_mono (SqL.of hl6) (fun i => [V.int (songs.getD i 0)]) nD7 (by rw [List.length_map]; omega) ?_ ?_ gname_mono⟩
    · rintro i x X hi sx ⟨_, hx⟩ k hk
      obtain ⟨z, rfl, hz⟩ := int_at hx
      refine ⟨rfl, iE_of ⟨_, rfl, by show 1 ≤ sizeLine; decide, fun b nb => hk b _ nb (Same.new nb) ?_⟩⟩
      rw [upd_same, List.getD_eq_getElem?_getD, hz]; rfl
    intro bs H7 s7 h7 lbs nd hbs
    rw [List.length_map] at lbs
    have R7 : Rows K H7 (bs.map V.ref) (singles songs) := by
      refine ⟨by rw [List.length_map, lbs, singles_len], fun i v e => ?_⟩
      rw [List.getElem?_map] at e
      cases eb : bs[i]? with
      | none => rw [eb] at e; cases e
      | some b =>
        rw [eb] at e
        have hi : i < songs.length := by have := (List.getElem?_eq_some_iff.mp eb).1; omega
        refine ⟨b, (Option.some.inj e).symm, ?_⟩
        rw [singles_getD hi]
        exact SqL.of (hbs i b eb).1
    have gr : GrOk (singles songs) := fun z hz => by
      obtain ⟨x, hx, rfl⟩ := List.mem_map.mp hz
      have := a.ok x hx
      exact areS_of (by simp) (by simp) (fun y hy => by rw [List.mem_singleton.mp hy]; exact this) rfl
    have hlf7 := s7 _ _ (s36 _ _ hlf)
    have hpf7 := s7 _ _ (s36 _ _ hpf)
    obtain ⟨pm, _⟩ := order_ok gk1.1 a.ok a.none
    obtain ⟨g, eg, hg⟩ := alike_least a
    refine ⟨_, rfl, _, rfl, pf, _, dxf, _, _, rfl, hpf7, T.cls_Spaced, T.na_Spaced_order, orF_order _, D7, lf, _, singles songs, _, rfl, SqL.of h7, R7, gr, by rw [singles_len]; exact l24, SqL.of hlf7, by rw [singles_len]; exact pm, fun H8 s8 => ?_⟩
    rw [eg]
    refine ⟨_, rfl, _, _, rfl, rfl, g, (m : Int) - 1, rfl, rfl, false, (show V.bl (decide (g < (m : Int) - 1)) = V.bl false by rw [decide_eq_false (by omega)]), iteF ?_⟩
    refine ⟨_, rfl, pf, dxf, _, rfl, s8 _ _ hpf7, orF_shows _, _, rfl, _, rfl, pf, lf, l, songs, _, (m : Int), rfl, spf.mono (s36.trans (s7.trans s8)), SqL.of (s8 _ _ (s7 _ _ hl6)), by omega, fun H9 s9 => ?_⟩
    rw [a.hides]
    refine ⟨_, _, rfl, rfl, _, rfl, iteF ?_⟩
    -- written ones
    have s09 : Same H H9 := sG.trans (sG3.trans (s36.trans (s7.trans (s8.trans s9))))
    refine iE_of ⟨by show 1 ≤ sizeLine; decide, fun x1 nx1 => to_new nx1 fun X1 kx1 hx1 => ⟨x1, 3, _, rfl, rfl, hx1, by decide, by decide, by decide, fun y1 ny1 => to_new ny1 fun Y1 ky1 hy1 => ?_⟩⟩
    have hy1 : Y1 y1 = some (.lst [V.int 0, V.int 0, V.int 0]) := hy1
    refine iE_of ⟨by show 1 ≤ sizeLine; decide, fun x2 nx2 => to_new nx2 fun X2 kx2 hx2 => ⟨x2, 3, _, rfl, rfl, hx2, by decide, by decide, by decide, fun y2 ny2 => to_new ny2 fun Y2 ky2 hy2 => ?_⟩⟩
    have hy2 : Y2 y2 = some (.lst [V.int 1, V.int 1, V.int 1]) := hy2
    refine ⟨y1, y2, _, _, rfl, rfl, ky2 _ _ (kx2 _ _ hy1), hy2, by show 3 + 3 ≤ sizeLine; decide, fun z1 nz1 => to_new nz1 fun Z1 kz1 hz1 => ?_⟩
    refine iE_of ⟨by show 1 ≤ sizeLine; decide, fun x3 nx3 => to_new nx3 fun X3 kx3 hx3 => ⟨x3, 2, _, rfl, rfl, hx3, by decide, by decide, by decide, fun y3 ny3 => to_new ny3 fun Y3 ky3 hy3 => ?_⟩⟩
    have hy3 : Y3 y3 = some (.lst [V.int 2, V.int 2]) := hy3
    refine ⟨z1, y3, _, _, rfl, rfl, ky3 _ _ (kx3 _ _ hz1), hy3, by show 6 + 2 ≤ sizeLine; decide, fun z2 nz2 => to_new nz2 fun Z2 kz2 hz2 => ?_⟩
    refine iE_of ⟨by show 2 ≤ sizeLine; decide, fun x4 nx4 => to_new nx4 fun X4 kx4 hx4 => ?_⟩
    refine ⟨z2, x4, _, _, rfl, rfl, kx4 _ _ hz2, hx4, by show 8 + 2 ≤ sizeLine; decide, fun z3 nz3 => to_new nz3 fun Z3 kz3 hz3 => ?_⟩
    refine ⟨z3, [0, 0, 0, 1, 1, 1, 2, 2, 3, 4], rfl, SqL.of hz3, ⟨by decide, by unfold SgOk; decide +kernel⟩, fun H10 s10 => ?_⟩
    rw [al_c1]
    refine ⟨rfl, _, rfl, iteF ?_⟩
    have t10 : Same H9 H10 := kx1.trans (ky1.trans (kx2.trans (ky2.trans (kz1.trans (kx3.trans (ky3.trans (kz2.trans (kx4.trans (kz3.trans s10)))))))))
    refine iE_of ⟨by show 1 ≤ sizeLine; decide, fun x5 nx5 => to_new nx5 fun X5 kx5 hx5 => ⟨x5, 3, _, rfl, rfl, hx5, by decide, by decide, by decide, fun y5 ny5 => to_new ny5 fun Y5 ky5 hy5 => ?_⟩⟩
    have hy5 : Y5 y5 = some (.lst [V.int 0, V.int 0, V.int 0]) := hy5
    refine iE_of ⟨by show 1 ≤ sizeLine; decide, fun x6 nx6 => to_new nx6 fun X6 kx6 hx6 => ⟨x6, 3, _, rfl, rfl, hx6, by decide, by decide, by decide, fun y6 ny6 => to_new ny6 fun Y6 ky6 hy6 => ?_⟩⟩
    have hy6 : Y6 y6 = some (.lst [V.int 1, V.int 1, V.int 1]) := hy6
    refine ⟨y5, y6, _, _, rfl, rfl, ky6 _ _ (kx6 _ _ hy5), hy6, by show 3 + 3 ≤ sizeLine; decide, fun z5 nz5 => to_new nz5 fun Z5 kz5 hz5 => ?_⟩
    refine iE_of ⟨by show 1 ≤ sizeLine; decide, fun x7 nx7 => to_new nx7 fun X7 kx7 hx7 => ⟨x7, 3, _, rfl, rfl, hx7, by decide, by decide, by decide, fun y7 ny7 => to_new ny7 fun Y7 ky7 hy7 => ?_⟩⟩
    have hy7 : Y7 y7 = some (.lst [V.int 2, V.int 2, V.int 2]) := hy7
    refine ⟨z5, y7, _, _, rfl, rfl, ky7 _ _ (kx7 _ _ hz5), hy7, by show 6 + 3 ≤ sizeLine; decide, fun z6 nz6 => to_new nz6 fun Z6 kz6 hz6 => ?_⟩
    refine iE_of ⟨by show 1 ≤ sizeLine; decide, fun x8 nx8 => to_new nx8 fun X8 kx8 hx8 => ?_⟩
    refine ⟨z6, x8, _, _, rfl, rfl, kx8 _ _ hz6, hx8, by show 9 + 1 ≤ sizeLine; decide, fun z7 nz7 => to_new nz7 fun Z7 kz7 hz7 => ?_⟩
    refine ⟨z7, [0, 0, 0, 1, 1, 1, 2, 2, 2, 3], rfl, SqL.of hz7, ⟨by decide, by unfold SgOk; decide +kernel⟩, fun H11 s11 => ?_⟩
    rw [al_c2]
    refine ⟨rfl, _, rfl, iteF ?_⟩
    have t11 : Same H10 H11 := kx5.trans (ky5.trans (kx6.trans (ky6.trans (kz5.trans (kx7.trans (ky7.trans (kz6.trans (kx8.trans (kz7.trans s11)))))))))
    refine iE_of ⟨by show 3 ≤ sizeLine; decide, fun x9 nx9 => to_new nx9 fun X9 kx9 hx9 => ⟨x9, 3, _, rfl, rfl, hx9, by decide, by decide, by decide, fun y9 ny9 => to_new ny9 fun Y9 ky9 hy9 => ?_⟩⟩
    have hy9 : Y9 y9 = some (.lst [V.int 0, .int 1, .int 2, .int 0, .int 1, .int 2, .int 0, .int 1, .int 2]) := hy9
    refine iE_of ⟨by show 1 ≤ sizeLine; decide, fun x10 nx10 => to_new nx10 fun X10 kx10 hx10 => ?_⟩
    refine ⟨y9, x10, _, _, rfl, rfl, kx10 _ _ hy9, hx10, by show 9 + 1 ≤ sizeLine; decide, fun z8 nz8 => to_new nz8 fun Z8 kz8 hz8 => ?_⟩
    refine ⟨_, rfl, z8, [0, 1, 2, 0, 1, 2, 0, 1, 2, 3], 3, rfl, SqL.of hz8, ⟨by decide, by unfold SgOk; decide +kernel⟩, ⟨by decide, by decide⟩, fun e => absurd e (by rw [al_c3]; simp), fun s3' e3 p12 l12 H12 np12 nl12 s12 ba12 => ?_⟩
    obtain rfl : [0, 1, 2] = s3' := Option.some.inj (al_c3.symm.trans e3)
    obtain ⟨⟨dx12, hp12⟩, hl12⟩ := ba12
    refine ⟨_, rfl, _, _, _, _, _, rfl, .own _, ty_ins hp12 T.cls_Barred T.ic_Barred, T.ki_Barred_Barred, _, rfl, iteT ?_⟩
    refine ⟨_, rfl, p12, _, dx12, _, _, rfl, hp12, T.cls_Barred, T.na_Barred_singers, siF_singers _, ?_⟩
    refine iE_of ⟨by show 3 ≤ sizeLine; decide, fun x13 nx13 => to_new nx13 fun X13 kx13 hx13 => ?_⟩
    refine ⟨_, _, dp_ints (SqL.of (kx13 _ _ hl12)), dp_ints (ns := [0, 1, 2]) (SqL.of hx13), (shp_ints _).ok, (shp_ints _).ok, ?_⟩
    rw [eqv_ints]
    exact q X13 (s09.trans (t10.trans (t11.trans (kx9.trans (ky9.trans (kx10.trans (kz8.trans (s12.trans kx13))))))))
end
end Song

/-! ### Lam3: a lambda handed as the third of three arguments -/
namespace Song
open PySem PySem.Spec PyProof.Rows L2
abbrev EN : XK := fun _ _ _ => False
/-- the def that calls what it got as its third argument, and lets nothing out -/
def Gives3 (X : Cx) (Ng : List Str) (x : Str) (sg : Scope) (g : Addr) (cdg : Value) (bg : List Stmt) (a : Str) (q : Str) (TT : V → V → (Hp → VK → Prop) → Hp → VK → Prop) : Prop :=
  ∀ (f c' : Addr) (s : Shared) (H : Hp) (Q : VK) (v1 v2 : V) (tl : Hp → VK → Prop), Room 0 (X.A.deeper (envOfC x sg s.heap.objs.size g cdg)) →
    (∀ (p1 p2 : Pos), PE (cxOf C8.CX0 X.prog X.w X.K X.mg X.base Ng x sg g cdg X.A X.stack s H C8.E0).nox (.Call (.Name a p1) [] [] p2) (fun σZ HZ Q => σZ[2]? = some (some (.ref f)) ∧ HZ c' = some (LamX.CodeO c' q) ∧ tl HZ Q)) →
    H c' = some (LamX.CodeO c' q) → TT v1 v2 tl H Q →
    ∃ t, PSs (cxOf C8.CX0 X.prog X.w X.K X.mg X.base Ng x sg g cdg X.A X.stack s H C8.E0).nox bg t ∧ t { nx := fun _ H' => Q .non H', rt := Q } (L2.start Ng [v1, v2, .ref f]) H
def tLam3 (T : List (Addr × Str)) (TT : V → V → (Hp → VK → Prop) → Hp → VK → Prop) (t1 t2 t : TE) : TE := fun σ H Q => t1 σ H fun v1 H1 => t2 σ H1 fun v2 H2 => LamX.Tabs T H2 ∧ ∀ H3, LamX.ExtN H2 H3 → LamX.Tabs T H3 → TT v1 v2 (fun H' Q' => t σ H' Q') H3 Q
section
variable {X : Cx}
/-- x(e1, e2, lambda: body) -/
theorem pe_lam3 {T : List (Addr × Str)} {TT : V → V → (Hp → VK → Prop) → Hp → VK → Prop} {x a1 a2 a : Str} {g c P : Addr} {k : Nat} {pg : Arguments} {bg : List Stmt} {sg : Scope} {dV kV doc pm cdv ct oc : Value} {an od : Option Addr} {osl : Array (Option Value)} {Ng : List Str}
    {params : Arguments} {body e1 e2 : Expr} {scope : Scope} {t1 t2 t : TE} {p lpos pos : Pos} (hg : Gl X x) (hm : X.mg x = some (.ref g)) (hk : PySem.W.keepIn X.K (.ref g) = true)
    (lk : X.K.lookup g = some ⟨oc, od, .func (PySem.W.fnOf x x pg bg sg dV kV doc pm an cdv ct), osl⟩) (hcg : PySem.W.codeIn X.K cdv x = true) (hb : L2.Binds X.K (PySem.W.fnOf x x pg bg sg dV kV doc pm an cdv ct) [a1, a2, a] []) (Sg : FnScope Ng [a1, a2, a] sg) (hNg : Ng[2]? = some a) (hva : Vis sg a)
    (hG : Gives3 X Ng x sg g cdv bg a (X.env.qual ++ "<lambda>") TT)
    (TB : LamX.TabB X.base X.mg c P) (hcode : X.env.code = .ref c) (hmT : (P, X.env.qual ++ "<lambda>") ∈ T) (hu : ∀ p ∈ T, p.1 = P → p.2 = X.env.qual ++ "<lambda>") (hr : Room (k + 2) X.A) (L : LamX.LamS X.env.scope scope) (hdef : defaultsOf params X.env = ([], []))
    (hbind : ∀ (q : Str) (cl : List (Str × Addr)) (pm cv ctv : Value), bindArgs (PySem.W.kla_fn "<lambda>" q params body scope cl pm cv ctv) ⟨[], []⟩ = pure [])
    (h1 : PE X e1 t1) (h2 : PE X e2 t2)
    (hbody : ∀ (A : Around) (outer : List Env) (s : Shared) (H : Hp) (f c' : Addr), Room k (A.deeper (LamX.lamEnv X scope s.heap.objs.size f c')) → PE (LamX.lamCx X A outer s H EN scope f c') body t)
    (hs : starEach [e1, e2, .Lambda params body scope lpos] X.env = [(false, eval e1 X.env), (false, eval e2 X.env), (false, eval (.Lambda params body scope lpos) X.env)] := by rfl)
    (hdb : (x == ("__debug__" : Str)) = false := by decide) (hd : (a == ("__debug__" : Str)) = false := by decide) (hcd : (a == ("__classdict__" : Str)) = false := by decide)
    (he : starEach [e1, e2, .Lambda params body scope lpos] X.env = (false, eval e1 X.env) :: starEach [e2, .Lambda params body scope lpos] X.env := by rfl) (hpl : (backTo pos (starEach [e2, .Lambda params body scope lpos] X.env)).any (·.1) = false := by rfl) :
    PE X (.Call (.Name x p) [e1, e2, .Lambda params body scope lpos] [] pos) (tLam3 T TT t1 t2 t) := by
  refine ⟨fun pins s σ H Q I h => ?_⟩
  refine wpAny_Call_Name_kw (ld_glob I hg hm ?_ hdb)
  refine PySem.W.callWith_K (h₀ := X.base) I.ok.mod.kin hk ?_ he hpl
  rw [hs]
  show wpAny _ _ (spliced ((false, eval e1 X.env) :: (false, eval e2 X.env) :: (false, eval (.Lambda params body scope lpos) X.env) :: backTo pos [])) _ _ s
  refine Calls.spliced_cons (thn (h1.run pins s σ H _ I h) fun u1 sa ⟨v1, Ha, Ia, r1, qa⟩ => ?_)
  refine Calls.spliced_cons (thn (h2.run pins sa σ Ha _ Ia qa) fun u2 sb ⟨v2, Hb, Ib, r2, hT, qb⟩ => ?_)
  refine Calls.spliced_cons (LamX.lam_make2 Ib TB hcode hmT hu hT hdef (L.has Ib.ok) fun f c' pm' ctv H1 s' I1 eN T1 hf hfn hfr hco => ?_)
  refine Calls.spliced_nil ⟨I1.kIn, ?_⟩
  have rc : codeAny (model X.prog X.w) X.A (.call (.ref g) ⟨[u1, u2, .ref f], []⟩) (CR C8.CX0 X.stack X.prog X.w H1 s' Q C8.E0) s' := by
    refine LamX.run_ofS (N := Ng) (ps := [a1, a2, a]) (us := [u1, u2, .ref f]) (vs := [v1, v2, .ref f]) lk hcg Sg hr I1.env0 (hb s' [u1, u2, .ref f] I1.kIn rfl) (.cons r1 (.cons r2 (.cons rfl .nil))) rfl fun hr' => ?_
    obtain ⟨t', ht', hq'⟩ := hG f c' s' H1 Q v1 v2 (fun H' Q' => t σ H' Q') (hr'.mono (Nat.zero_le _)) (fun p1 p2 => LamX.pe_act (i := 2) (E := EN) (W := fun _ _ _ _ => False) (pn := []) (xe := fun _ _ => False) I1 L hf hfn hfr (hbind _ _ _ _ _) LamX.takes0 (fun _ _ _ _ z => z) hr' (fun A outer s H hr2 => hbody A outer s H f c' hr2) hNg hva hd hcd) hco (qb H1 eN T1)
    exact ⟨t', ht'.nox, hq'⟩
  refine wpAny_call (codeAny_mono rc fun r s2 hq => ?_)
  cases r with
  | error e => exact (show False from hq).elim
  | ok fl =>
    cases fl with
    | ret u => exact I1.after hq
    | next => exact False.elim hq
    | brk => exact False.elim hq
    | cont => exact False.elim hq
end
end Song

/-! ### H8a: _law_made_into of k13 -/
namespace Song
open PySem L2
/-- what _law_made_into makes of the lambda's reading -/
def TTm (v1 v2 : V) (tl : Hp → VK → Prop) (H : Hp) (Q : VK) : Prop := ∃ (l a : Addr) (os : List Int) (vs : List V) (dl : List (List Int × Bool)), v1 = .ref l ∧ v2 = .ref a ∧ H l = some (.lst (os.map V.int)) ∧ H a = some (.lst vs) ∧ a ≠ l ∧
  DxAll (off [l] H) vs (dl.map fun p => .tup [intsD p.1, .bl p.2]) ∧ (∀ p ∈ dl ++ [(os, true)], p.1.length ≤ 900) ∧
  (∀ p ∈ dl ++ [(os, true)], ∀ H', Fra [l] H H' → H' l = some (.lst (p.1.map V.int)) → ∀ Q' : VK, (∀ H'', Same H' H'' → Q' (.bl p.2) H'') → tl H' Q') ∧ ∀ H', Fra [l] H H' → H' l = some (.lst (os.map V.int)) → Q (.bl true) H'
theorem codeO_lst {c : Addr} {q : Str} {xs : List V} : LamX.CodeO c q ≠ .lst xs := fun z => by
  unfold LamX.CodeO at z
  cases z
theorem sc__law_made_into : FnScope ["_law_fields", "_law_due", "_law_shows", "_law_kept", "_law_some", "_law_good", "_law_said"] ["_law_fields", "_law_due", "_law_shows"] (defScope s__law_made_into) := ⟨rfl, rfl, rfl, by decide +kernel, rfl, by decide +kernel, by decide +kernel⟩
theorem dx_due {H : Hp} {v : V} {ns : List Int} {b : Bool} (h : Dx H v (.tup [intsD ns, .bl b])) : ∃ t c, v = .ref t ∧ H t = some (.tup [.ref c, .bl b]) ∧ H c = some (.lst (ns.map V.int)) := by
  cases h with
  | tup h a =>
    cases a with
    | cons d1 a =>
      cases a with
      | cons d2 a =>
        cases a
        cases d2
        obtain ⟨c, rfl, hc⟩ := dx_ints d1
        exact ⟨_, c, rfl, h, hc⟩
theorem gives_made {X : Cx} {g : Addr} {cdg : Value} {q : Str} (T : Tx X.K X.mg) :
    Gives3 X ["_law_fields", "_law_due", "_law_shows", "_law_kept", "_law_some", "_law_good", "_law_said"] "_law_made_into" (defScope s__law_made_into) g cdg (defBody s__law_made_into) "_law_shows" q TTm := by
  intro f c' s H Q v1 v2 tl hr act hc h
  obtain ⟨l, a, os, vs, dl, rfl, rfl, hl, ha, nal, hx, hlen, htl, q⟩ := h
  refine ⟨_, (pss_cons (ps_set (i := 3) sc__law_made_into.nd rfl (by first | exact Or.inl rfl | exact Or.inr rfl) (pe_callTy (show CallR _ _ (rListO X.K) from call_list_of) (by rfl) T.list (by decide +kernel) (pa_cons (pv 0) pa_nil)))
      (pss_cons (ps_for PassesOwn.never rfl (show PI _ _ _ (iList X.K _) from pi_list (pv 1)) (show PG _ _ (gTup X.K _ _) from pg_tup rfl (pgs_cons (pg_name (i := 4) sc__law_made_into.nd rfl (by first | exact Or.inl rfl | exact Or.inr rfl)) (pgs_cons (pg_name (i := 5) sc__law_made_into.nd rfl (by first | exact Or.inl rfl | exact Or.inr rfl)) pgs_nil)))
      (pss_cons (ps_expr (show PE _ _ (tBM0 X.K _ _ _) from pe_bm0 PySem.F.plainAttrs_list PySem.F.slot_list_clear PySem.F.type_list_clear mt_clear (pv 0)))
      (pss_cons (ps_expr (show PE _ _ (tBM X.K _ _ _ _) from pe_bm PySem.F.plainAttrs_list PySem.F.slot_list_extend PySem.F.type_list_extend mt_extend (pv 0) (pa_cons (pv 4) pa_nil)))
      (pss_cons (ps_set (i := 6) sc__law_made_into.nd rfl (by first | exact Or.inl rfl | exact Or.inr rfl) (act _ _))
      (pss_one (ps_if (PW.pt (pw_or (pt_not (pt_val (pe_callB (show CallR _ _ (rIsi X.K) from call_isi) (by rfl) T.isinstance (by decide +kernel) (pa_cons (pv 6) (pa_cons (pe_gt (n := "bool") T.bool (by rfl) (by decide +kernel)) pa_nil))))) (pw_or1 (pt_cmpR op_ne (pv 6) (pv 5) (nomark _))))) (pss_one (ps_ret pe_bl)) pss_nil))))))
      (pss_cons (ps_expr (show PE _ _ (tBM0 X.K _ _ _) from pe_bm0 PySem.F.plainAttrs_list PySem.F.slot_list_clear PySem.F.type_list_clear mt_clear (pv 0)))
      (pss_cons (ps_expr (show PE _ _ (tBM X.K _ _ _ _) from pe_bm PySem.F.plainAttrs_list PySem.F.slot_list_extend PySem.F.type_list_extend mt_extend (pv 0) (pa_cons (pv 3) pa_nil)))
      (pss_one (ps_ret (pe_cmpR op_isBl (act _ _) pe_bl (nomark _)))))))), ?_⟩
  have ncl : c' ≠ l := fun z => by rw [z, hl] at hc; exact codeO_lst (Option.some.inj hc).symm
  refine ⟨_, rfl, l, _, rfl, .inl (SqL.of hl), fun k nk => to_new nk fun H1 s1 hk => ?_⟩
  have nkl : k ≠ l := (ne_of_none hl nk).symm
  have h900 : ∀ p ∈ dl ++ [(os, true)], p.1.length ≤ 900 := hlen
  refine ⟨_, rfl, a, rfl, ⟨_, SqL.of (s1 _ _ ha)⟩, for_list (K := X.K) (a := a) (xs := vs) (fun i σ H' => ∃ (x4 x5 x6 : Option V) (ns : List Int), σ = [some (.ref l), some (.ref a), some (.ref f), some (.ref k), x4, x5, x6] ∧ Fra [l] H1 H' ∧ H' l = some (.lst (ns.map V.int))) ?_ ?_ ?_ ?_⟩
  · exact ⟨_, _, _, os, rfl, Fra.refl _ _, s1 _ _ hl⟩
  · rintro i σ G _ ⟨x4, x5, x6, ns, rfl, fg, _⟩
    exact SqL.of (fg.one nal (s1 _ _ ha))
  · rintro i v σ G hv ⟨x4, x5, x6, ns, rfl, fg, hg⟩
    obtain ⟨d, hd, xd⟩ := dxAll_get (dxAll_mono ((off_mono (S := [l]) s1).trans fg.off) hx) hv
    rw [List.getElem?_map] at hd
    obtain ⟨p, hp, rfl⟩ : ∃ p, dl[i]? = some p ∧ d = .tup [intsD p.1, .bl p.2] := by
      cases e : dl[i]? with
      | none => rw [e] at hd; cases hd
      | some p => rw [e] at hd; exact ⟨p, rfl, (Option.some.inj hd).symm⟩
    have hpm : p ∈ dl ++ [(os, true)] := List.mem_append_left _ (List.mem_of_getElem? hp)
    obtain ⟨t, c, rfl, ht, hcc⟩ := dx_due xd
    obtain ⟨nt, ht'⟩ := off_some ht
    obtain ⟨ncl', hcc'⟩ := off_some hcc
    refine ⟨t, _, rfl, SqT.of ht', rfl, _, _, rfl, _, _, rfl, rfl, ?_⟩
    refine ⟨_, rfl, .inl ⟨rfl, _, SqL.of hg⟩, l, _, rfl, rfl, hg, to_put fun G1 f1 h1 => ?_⟩
    have nc : c ≠ l := by simpa using ncl'
    refine ⟨_, rfl, .inl ⟨rfl, _, SqL.of h1⟩, _, rfl, l, c, [], _, rfl, rfl, h1, f1.one nc hcc', ?_, to_put fun G2 f2 h2 => ?_⟩
    · rw [List.length_map]; exact Nat.le_of_lt (lt_line (by have := h900 p hpm; simp; omega))
    have fa : Fra [l] H1 G2 := fg.trans (f1.trans f2)
    have fH : Fra [l] H G2 := (Fra.of s1).trans fa
    refine ⟨rfl, fH.one ncl hc, htl p hpm G2 fH h2 _ fun G3 s3 => ?_⟩
    refine ⟨_, rfl, _, _, _, _, _, rfl, .ty _, .base (.bl _), (kit_kd (K := X.K) (H := G3) (v := .bl p.2) (t := "bool") (.base (.bl _))).2.1, _, rfl, iteF ?_⟩
    refine ⟨_, rfl, _, rfl, rfl, false, by simp, iteF ?_⟩
    exact ⟨_, _, _, p.1, rfl, fa.trans (Fra.of s3), s3 _ _ h2⟩
  rintro σ G ⟨x4, x5, x6, ns, rfl, fg, hg⟩
  refine ⟨_, rfl, .inl ⟨rfl, _, SqL.of hg⟩, l, _, rfl, rfl, hg, to_put fun G1 f1 h1 => ?_⟩
  have hpm : (os, true) ∈ dl ++ [(os, true)] := List.mem_append_right _ (by simp)
  refine ⟨_, rfl, .inl ⟨rfl, _, SqL.of h1⟩, _, rfl, l, k, [], _, rfl, rfl, h1, f1.one nkl (fg.one nkl hk), ?_, to_put fun G2 f2 h2 => ?_⟩
  · rw [List.length_map]; exact Nat.le_of_lt (lt_line (by have := h900 _ hpm; simp at this ⊢; omega))
  have fa : Fra [l] H1 G2 := fg.trans (f1.trans f2)
  have fH : Fra [l] H G2 := (Fra.of s1).trans fa
  refine ⟨rfl, fH.one ncl hc, htl _ hpm G2 fH h2 _ fun G3 s3 => ⟨_, _, rfl, rfl, ?_⟩⟩
  exact q G3 (fH.trans (Fra.of s3)) (s3 _ _ h2)
/-- _law_made_into(e1, e2, lambda: body) -/
theorem pe_made {X : Cx} {k : Nat} {d : Str} {params : Arguments} {body e1 e2 : Expr} {scope : Scope} {t1 t2 t : TE} {p lpos pos : Pos} (T : Tx X.K X.mg) (L : LamT X.K X.mg X.base (TLof X.K tf) d) (hq : X.env.qual = d ++ ".<locals>.") (hcode : X.env.code = .ref (He.cT X.K (d, none)).1)
    (hr : Room (k + 2) X.A) (hg : Gl X "_law_made_into") (LS : LamX.LamS X.env.scope scope) (hdef : defaultsOf params X.env = ([], []))
    (hbind : ∀ (q : Str) (cl : List (Str × Addr)) (pm cv ctv : Value), bindArgs (PySem.W.kla_fn "<lambda>" q params body scope cl pm cv ctv) ⟨[], []⟩ = pure [])
    (h1 : PE X e1 t1) (h2 : PE X e2 t2)
    (hbody : ∀ (A : Around) (outer : List Env) (s : Shared) (H : Hp) (f c' : Addr), Room k (A.deeper (LamX.lamEnv X scope s.heap.objs.size f c')) → PE (LamX.lamCx X A outer s H EN scope f c') body t)
    (hs : starEach [e1, e2, .Lambda params body scope lpos] X.env = [(false, eval e1 X.env), (false, eval e2 X.env), (false, eval (.Lambda params body scope lpos) X.env)] := by rfl)
    (he : starEach [e1, e2, .Lambda params body scope lpos] X.env = (false, eval e1 X.env) :: starEach [e2, .Lambda params body scope lpos] X.env := by rfl) (hpl : (backTo pos (starEach [e2, .Lambda params body scope lpos] X.env)).any (·.1) = false := by rfl) :
    PE X (.Call (.Name "_law_made_into" p) [e1, e2, .Lambda params body scope lpos] [] pos) (tLam3 (TLof X.K tf) TTm t1 t2 t) := by
  obtain ⟨fd, F⟩ := T.d__law_made_into
  have hbd : Binds X.K fd ["_law_fields", "_law_due", "_law_shows"] [] := F.bindsN fun _ _ _ _ _ _ us hl => match us, hl with | [_, _, _], _ => rfl
  have kp := F.kp
  obtain ⟨oc, od, dV, kV, doc, pm, an, cdv, ct, osl, rfl, lk, hcd, _, _⟩ := F.ex
  exact pe_lam3 (X := X) (T := TLof X.K tf) (TT := TTm) (x := "_law_made_into") (a := "_law_shows") (p := p) (lpos := lpos) (pos := pos) (t := t) hg T.g__law_made_into kp lk hcd hbd sc__law_made_into rfl (.inl rfl) (gives_made (q := X.env.qual ++ "<lambda>") T) L.tb hcode (by rw [hq]; exact L.mem) (fun p hp e => by rw [hq]; exact L.uq p hp e) hr LS hdef hbind h1 h2 hbody hs (by decide) (by decide) (by decide) he hpl
end Song

/-! ### H8: _law_fields_right of k13 -/
namespace Song
open PySem L2
def fsongs : List Int := [0, 1, 0, 1]
def fdue : List (List Int × Bool) := [([2, 1, 0, 3], true), ([0, 3, 2, 1], true), ([1, 0, 3, 2], true), ([0, 2, 1, 3], false), ([0, 1, 2], false), ([0, 1, 2, 2], false), ([0, 1, 2, -1], false), ([], false), ([0, 1, 2, 3, 4], false)]
def fpairs : List Int := [0, 0, 1, 1, 2, 2, 3, 3]
def fdue2 : List (List Int × Bool) := [([0, 1, 2], true), ([0, 1, 3], true), ([1, 2, 3], true), ([0, 1, 2, 3], true), ([0, 1], false), ([0], false), ([2, 1, 0], false), ([0, 1, 4], false), ([], false), ([0, 0, 1, 2], false)]
def frows : List (Int × List Int × Bool) := [(4, [0, 1, 2, 3], true), (4, [0, 1, 2], false), (6, [0, 3], true), (6, [1], false), (7, [2], true), (7, [0, 1], false), (8, [3], true), (8, [0, 1], false), (3, [0, 1, 2, 3], false)]
theorem f_b1 : barring fsongs 1 = none := by decide +kernel
theorem f_b2 : barring fpairs 5 = some [0, 1, 2, 3] := by decide +kernel
theorem f_b3 : barring fpairs 3 = none := by decide +kernel
theorem f_sh : ∀ p ∈ fdue ++ [(orderFor fsongs 1, true)], showsSp fsongs p.1 1 = p.2 ∧ p.1.length ≤ 900 := by decide +kernel
theorem f_sh0 : showsSp [0, 0, 0, 1] (orderFor fsongs 1) 1 = false ∧ showsSp fsongs (orderFor fsongs 1) 1 = true := by decide +kernel
theorem f_ba : ∀ p ∈ fdue2 ++ [([0, 1, 2, 3], true)], barsP fpairs 5 p.1 = p.2 ∧ p.1.length ≤ 900 := by decide +kernel
theorem f_rows : ∀ p ∈ frows, barsP fpairs p.1 p.2.1 = p.2.2 ∧ p.2.1.length ≤ 900 ∧ 0 ≤ p.1 ∧ p.1 < 100 := by decide +kernel
theorem f_last : barsP [0, 4, 1, 1, 2, 2, 3, 3] 5 [0, 1, 2] = false := by decide +kernel
section
variable {σ : L2.St} {K : PySem.W.Frag}
theorem rd_catS {te : TE} {H : Hp} {ds es : List D} {B : TS} {Dn : Ends} {i j : Nat} {a : Addr} {vs : List V} (S : List Addr) (hS : ∀ a ∈ S, ∃ o, H a = some o) (hσ : σ[i]? = some (some (.ref a))) (ha : H a = some (.lst vs)) (hall : DxAll (off S H) vs ds) (h : Gw S H σ te (.lst es)) (hl : ds.length + es.length ≤ 1000)
    (q : ∀ p vs' H', H p = none → Same H H' → H' p = some (.lst vs') → DxAll (off S H') vs' (ds ++ es) → B Dn (σ.set j (some (.ref p))) H') : tSeq (tAsg (tOp rCat (tVar i) (iE te)) (gName j)) B Dn σ H := by
  unfold tSeq tAsg
  refine ⟨_, hσ, rd_datS S hS h fun v H1 s1 hv => ?_⟩
  obtain ⟨b, ws, rfl, hb, hw⟩ := dx_lst hv
  have l1 := dxAll_len hall
  have l2 := dxAll_len hw
  refine ⟨a, b, vs, ws, rfl, rfl, s1 _ _ ha, (off_some hb).2, Nat.le_of_lt (Nat.lt_of_le_of_lt (by omega : _ ≤ 1000) (by decide)), fun p np => ?_⟩
  exact q p _ _ (s1.free np) (s1.trans (Same.new np)) upd_same (dxAll_mono (off_mono (Same.new np)) (dxAll_app (dxAll_mono (off_mono s1) hall) hw))
theorem same_back {H H' : Hp} {l : Addr} {o : HO} (f : Fra [l] H H') (h : H l = some o) (h' : H' l = some o) : Same H H' := fun b u e => by
  by_cases z : b = l
  · rw [z] at e ⊢; rw [h] at e; rw [h', ← e]
  · exact f.one z e
theorem ext_fraT {H H2 H3 : Hp} {S : List Addr} (e : LamX.ExtN H H2) (f : Fra S H2 H3) (n : ∀ a ∈ S, ∀ o, H a = some o → (∀ ps, o ≠ .tbl ps) → False) : LamX.ExtN H H3 := fun b o h k => f b o (fun z => n b z o h k) (e b o h k)
theorem ext_off {S : List Addr} {H H' : Hp} (e : LamX.ExtN H H') : Same (nt (off S H)) (off S H') := fun b o h => by
  obtain ⟨h1, n⟩ := nt_some h
  obtain ⟨h2, h3⟩ := off_some h1
  rw [off_out h2]
  exact e b o h3 n
theorem dx_row {H : Hp} {v : V} {n : Int} {ns : List Int} {b : Bool} (h : Dx H v (.tup [.int n, intsD ns, .bl b])) : ∃ t c, v = .ref t ∧ H t = some (.tup [.int n, .ref c, .bl b]) ∧ H c = some (.lst (ns.map V.int)) := by
  cases h with
  | tup h a =>
    cases a with
    | cons d0 a =>
      cases a with
      | cons d1 a =>
        cases a with
        | cons d2 a =>
          cases a
          cases d2
          cases d0
          obtain ⟨c, rfl, hc⟩ := dx_ints d1
          exact ⟨_, c, rfl, h, hc⟩
end
section
variable {P : Program} {w : World} {K : PySem.W.Frag} {mg : Str → Option Value} {base : Heap}
theorem sc__law_fields_right : FnScope ["_law_songs", "_law_found", "_law_due", "_law_pairs", "_law_barred", "_law_rows", "_law_gap", "_law_singers", "_law_good"] [] (defScope s__law_fields_right) := ⟨rfl, rfl, rfl, by decide +kernel, rfl, by decide +kernel, by decide +kernel⟩
def sp_trueT (K : PySem.W.Frag) : Sp := fun vs H Q _ => vs = [] ∧ LamX.Tabs (TL K) H ∧ ∀ H', LamX.ExtN H H' → LamX.Tabs (TL K) H' → Q (.bl true) H'
theorem fn__law_fields_right (T : Tx K mg) (B : ∀ p ∈ tf, LamX.TabB base mg (He.cT K p).1 (He.cT K p).2) : Fn P w K mg base "_law_fields_right" 9 (sp_trueT K) := by
  obtain ⟨fd, F⟩ := T.d__law_fields_right
  refine ⟨_, fd, _, okC (at_ := ("_law_fields_right", none)) F rfl (CX := CX0) sc__law_fields_right (fun vs H Q E h => ?_) (fun cdv hcv A outer s H vs Q E hr h => ?_), T.g__law_fields_right, F.kp, F.bindsN fun _ _ _ _ _ _ us hl => match us, hl with | [], _ => rfl⟩
  · obtain ⟨rfl, _⟩ := h; rfl
  · obtain ⟨rfl, tb, q⟩ := h
    refine ⟨_, PSs.nox (pss_cons (ps_set (i := 0) sc__law_fields_right.nd rfl (by first | exact Or.inl rfl | exact Or.inr rfl) (pe_iE (pe_lst (pa_cons pe_int (pa_cons pe_int (pa_cons pe_int (pa_cons pe_int pa_nil)))))))
      (pss_cons (ps_set (i := 1) sc__law_fields_right.nd rfl (by first | exact Or.inl rfl | exact Or.inr rfl) (pe_fn (fn_spaced T) (hr.mono (by first | decide | omega)) (by rfl) (pa_cons (pv 0) (pa_cons pe_int pa_nil))))
      (pss_cons (ps_set (i := 2) sc__law_fields_right.nd rfl (by first | exact Or.inl rfl | exact Or.inr rfl) (pe_iE (pe_lst (pa_cons (pe_tup (pa_cons (pe_lst (pa_cons pe_int (pa_cons pe_int (pa_cons pe_int (pa_cons pe_int pa_nil))))) (pa_cons pe_bl pa_nil))) (pa_cons (pe_tup (pa_cons (pe_lst (pa_cons pe_int (pa_cons pe_int (pa_cons pe_int (pa_cons pe_int pa_nil))))) (pa_cons pe_bl pa_nil))) (pa_cons (pe_tup (pa_cons (pe_lst (pa_cons pe_int (pa_cons pe_int (pa_cons pe_int (pa_cons pe_int pa_nil))))) (pa_cons pe_bl pa_nil))) (pa_cons (pe_tup (pa_cons (pe_lst (pa_cons pe_int (pa_cons pe_int (pa_cons pe_int (pa_cons pe_int pa_nil))))) (pa_cons pe_bl pa_nil))) pa_nil)))))))
      (pss_cons (ps_set (i := 2) sc__law_fields_right.nd rfl (by first | exact Or.inl rfl | exact Or.inr rfl) (pe_op op_cat (pv 2) (pe_iE (pe_lst (pa_cons (pe_tup (pa_cons (pe_lst (pa_cons pe_int (pa_cons pe_int (pa_cons pe_int pa_nil)))) (pa_cons pe_bl pa_nil))) (pa_cons (pe_tup (pa_cons (pe_lst (pa_cons pe_int (pa_cons pe_int (pa_cons pe_int (pa_cons pe_int pa_nil))))) (pa_cons pe_bl pa_nil))) (pa_cons (pe_tup (pa_cons (pe_lst (pa_cons pe_int (pa_cons pe_int (pa_cons pe_int (pa_cons (pe_un un_neg pe_int) pa_nil))))) (pa_cons pe_bl pa_nil))) pa_nil)))))))
      (pss_cons (ps_set (i := 2) sc__law_fields_right.nd rfl (by first | exact Or.inl rfl | exact Or.inr rfl) (pe_op op_cat (pv 2) (pe_iE (pe_lst (pa_cons (pe_tup (pa_cons (pe_lst pa_nil) (pa_cons pe_bl pa_nil))) (pa_cons (pe_tup (pa_cons (pe_lst (pa_cons pe_int (pa_cons pe_int (pa_cons pe_int (pa_cons pe_int (pa_cons pe_int pa_nil)))))) (pa_cons pe_bl pa_nil))) pa_nil))))))
      (pss_cons (ps_if (pt_not (pt_val (pe_made (k := 3) T (lamT T B (by decide)) rfl hcv (hr.mono (by first | decide | omega)) (by rfl) (LamX.lamS_by (by kernel_rfl)) rfl (fun _ _ _ _ _ => rfl) (show PE _ _ (tFld K _ _) from pe_fld (pv 1) rfl) (pv 2) (fun A outer s H f c' hr => (pe_me (me_Spaced_shows T) (hr.mono (by first | decide | omega)) (pv 1) (pa_cons (pv 0) (pa_cons pe_int pa_nil))))))) (pss_one (ps_ret pe_bl)) pss_nil)
      (pss_cons (ps_asg pe_int (pg_sub (pv 0) pe_int set_list))
      (pss_cons (ps_if (pt_cmpR op_notBl (pe_me (me_Spaced_shows T) (hr.mono (by first | decide | omega)) (pv 1) (pa_cons (pv 0) (pa_cons pe_int pa_nil))) pe_bl (nomark _)) (pss_one (ps_ret pe_bl)) pss_nil)
      (pss_cons (ps_asg pe_int (pg_sub (pv 0) pe_int set_list))
      (pss_cons (ps_set (i := 3) sc__law_fields_right.nd rfl (by first | exact Or.inl rfl | exact Or.inr rfl) (pe_iE (pe_lst (pa_cons pe_int (pa_cons pe_int (pa_cons pe_int (pa_cons pe_int (pa_cons pe_int (pa_cons pe_int (pa_cons pe_int (pa_cons pe_int pa_nil)))))))))))
      (pss_cons (ps_set (i := 4) sc__law_fields_right.nd rfl (by first | exact Or.inl rfl | exact Or.inr rfl) (pe_fn (fn_spaced T) (hr.mono (by first | decide | omega)) (by rfl) (pa_cons (pv 3) (pa_cons pe_int pa_nil))))
      (pss_cons (ps_set (i := 2) sc__law_fields_right.nd rfl (by first | exact Or.inl rfl | exact Or.inr rfl) (pe_iE (pe_lst (pa_cons (pe_tup (pa_cons (pe_lst (pa_cons pe_int (pa_cons pe_int (pa_cons pe_int pa_nil)))) (pa_cons pe_bl pa_nil))) (pa_cons (pe_tup (pa_cons (pe_lst (pa_cons pe_int (pa_cons pe_int (pa_cons pe_int pa_nil)))) (pa_cons pe_bl pa_nil))) (pa_cons (pe_tup (pa_cons (pe_lst (pa_cons pe_int (pa_cons pe_int (pa_cons pe_int pa_nil)))) (pa_cons pe_bl pa_nil))) (pa_cons (pe_tup (pa_cons (pe_lst (pa_cons pe_int (pa_cons pe_int (pa_cons pe_int (pa_cons pe_int pa_nil))))) (pa_cons pe_bl pa_nil))) pa_nil)))))))
      (pss_cons (ps_set (i := 2) sc__law_fields_right.nd rfl (by first | exact Or.inl rfl | exact Or.inr rfl) (pe_op op_cat (pv 2) (pe_iE (pe_lst (pa_cons (pe_tup (pa_cons (pe_lst (pa_cons pe_int (pa_cons pe_int pa_nil))) (pa_cons pe_bl pa_nil))) (pa_cons (pe_tup (pa_cons (pe_lst (pa_cons pe_int pa_nil)) (pa_cons pe_bl pa_nil))) (pa_cons (pe_tup (pa_cons (pe_lst (pa_cons pe_int (pa_cons pe_int (pa_cons pe_int pa_nil)))) (pa_cons pe_bl pa_nil))) (pa_cons (pe_tup (pa_cons (pe_lst (pa_cons pe_int (pa_cons pe_int (pa_cons pe_int pa_nil)))) (pa_cons pe_bl pa_nil))) pa_nil))))))))
      (pss_cons (ps_set (i := 2) sc__law_fields_right.nd rfl (by first | exact Or.inl rfl | exact Or.inr rfl) (pe_op op_cat (pv 2) (pe_iE (pe_lst (pa_cons (pe_tup (pa_cons (pe_lst pa_nil) (pa_cons pe_bl pa_nil))) (pa_cons (pe_tup (pa_cons (pe_lst (pa_cons pe_int (pa_cons pe_int (pa_cons pe_int (pa_cons pe_int pa_nil))))) (pa_cons pe_bl pa_nil))) pa_nil))))))
      (pss_cons (ps_if (PW.pt (pw_or (pt_cmpR op_notBl (pe_me (me_Spaced_shows T) (hr.mono (by first | decide | omega)) (pv 1) (pa_cons (pv 0) (pa_cons pe_int pa_nil))) pe_bl (nomark _)) (pw_or1 (pt_not (pt_val (pe_callB (show CallR _ _ (rIsi K) from call_isi) (by rfl) T.isinstance (by decide +kernel) (pa_cons (pv 4) (pa_cons (pe_gc T.g_Barred (by rfl)) pa_nil)))))))) (pss_one (ps_ret pe_bl)) pss_nil)
      (pss_cons (ps_if (pt_not (pt_val (pe_made (k := 3) T (lamT T B (by decide)) rfl hcv (hr.mono (by first | decide | omega)) (by rfl) (LamX.lamS_by (by kernel_rfl)) rfl (fun _ _ _ _ _ => rfl) (show PE _ _ (tFld K _ _) from pe_fld (pv 4) rfl) (pv 2) (fun A outer s H f c' hr => (pe_me (me_Barred_shows T) (hr.mono (by first | decide | omega)) (pv 4) (pa_cons (pv 3) (pa_cons pe_int pa_nil))))))) (pss_one (ps_ret pe_bl)) pss_nil)
      (pss_cons (ps_set (i := 5) sc__law_fields_right.nd rfl (by first | exact Or.inl rfl | exact Or.inr rfl) (pe_iE (pe_lst (pa_cons (pe_tup (pa_cons pe_int (pa_cons (pe_lst (pa_cons pe_int (pa_cons pe_int (pa_cons pe_int (pa_cons pe_int pa_nil))))) (pa_cons pe_bl pa_nil)))) (pa_cons (pe_tup (pa_cons pe_int (pa_cons (pe_lst (pa_cons pe_int (pa_cons pe_int (pa_cons pe_int pa_nil)))) (pa_cons pe_bl pa_nil)))) (pa_cons (pe_tup (pa_cons pe_int (pa_cons (pe_lst (pa_cons pe_int (pa_cons pe_int pa_nil))) (pa_cons pe_bl pa_nil)))) (pa_cons (pe_tup (pa_cons pe_int (pa_cons (pe_lst (pa_cons pe_int pa_nil)) (pa_cons pe_bl pa_nil)))) (pa_cons (pe_tup (pa_cons pe_int (pa_cons (pe_lst (pa_cons pe_int pa_nil)) (pa_cons pe_bl pa_nil)))) pa_nil))))))))
      (pss_cons (ps_set (i := 5) sc__law_fields_right.nd rfl (by first | exact Or.inl rfl | exact Or.inr rfl) (pe_op op_cat (pv 5) (pe_iE (pe_lst (pa_cons (pe_tup (pa_cons pe_int (pa_cons (pe_lst (pa_cons pe_int (pa_cons pe_int pa_nil))) (pa_cons pe_bl pa_nil)))) (pa_cons (pe_tup (pa_cons pe_int (pa_cons (pe_lst (pa_cons pe_int pa_nil)) (pa_cons pe_bl pa_nil)))) (pa_cons (pe_tup (pa_cons pe_int (pa_cons (pe_lst (pa_cons pe_int (pa_cons pe_int pa_nil))) (pa_cons pe_bl pa_nil)))) (pa_cons (pe_tup (pa_cons pe_int (pa_cons (pe_lst (pa_cons pe_int (pa_cons pe_int (pa_cons pe_int (pa_cons pe_int pa_nil))))) (pa_cons pe_bl pa_nil)))) pa_nil))))))))
      (pss_cons (ps_for PassesOwn.never rfl (show PI _ _ _ (iList K _) from pi_list (pv 5)) (show PG _ _ (gTup K _ _) from pg_tup rfl (pgs_cons (pg_name (i := 6) sc__law_fields_right.nd rfl (by first | exact Or.inl rfl | exact Or.inr rfl)) (pgs_cons (pg_name (i := 7) sc__law_fields_right.nd rfl (by first | exact Or.inl rfl | exact Or.inr rfl)) (pgs_cons (pg_name (i := 8) sc__law_fields_right.nd rfl (by first | exact Or.inl rfl | exact Or.inr rfl)) pgs_nil))))
      (pss_one (ps_if (pt_cmpR op_ne (pe_me (me_Barred_shows T) (hr.mono (by first | decide | omega)) (pe_mk (mk_Barred T) (hr.mono (by first | decide | omega)) (by rfl) (pa_cons (pv 7) pa_nil)) (pa_cons (pv 3) (pa_cons (pv 6) pa_nil))) (pv 8) (nomark _)) (pss_one (ps_ret pe_bl)) pss_nil)))
      (pss_cons (ps_asg pe_int (pg_sub (pv 3) pe_int set_list))
      (pss_one (ps_ret (pe_and (pe_cmpR op_isBl (pe_me (me_Barred_shows T) (hr.mono (by first | decide | omega)) (pe_mk (mk_Barred T) (hr.mono (by first | decide | omega)) (by rfl) (pa_cons (pe_iE (pe_lst (pa_cons pe_int (pa_cons pe_int (pa_cons pe_int pa_nil))))) pa_nil)) (pa_cons (pv 3) (pa_cons pe_int pa_nil))) pe_bl (nomark _)) (pe_one (pe_callB (show CallR _ _ (rIsi K) from call_isi) (by rfl) T.isinstance (by decide +kernel) (pa_cons (pe_fn (fn_spaced T) (hr.mono (by first | decide | omega)) (by rfl) (pa_cons (pe_iE (pe_lst (pa_cons pe_int (pa_cons pe_int (pa_cons pe_int (pa_cons pe_int (pa_cons pe_int (pa_cons pe_int (pa_cons pe_int (pa_cons pe_int pa_nil)))))))))) (pa_cons pe_int pa_nil))) (pa_cons (pe_gc T.g_Spaced (by rfl)) pa_nil))))))))))))))))))))))))))), ?_⟩
    refine iE_of ⟨by show 4 ≤ sizeLine; decide, fun ls nls => to_new nls fun H1 s1 hls => ?_⟩
    have hls : H1 ls = some (.lst (fsongs.map V.int)) := hls
    refine ⟨_, rfl, ls, fsongs, 1, rfl, SqL.of hls, ⟨by decide, by unfold SgOk; decide +kernel⟩, ⟨by decide, by decide⟩, fun _ pf lf H2 npf nlf s2 spf => ?_, fun ss e => absurd e (by rw [f_b1]; simp)⟩
    obtain ⟨⟨dxf, hpf⟩, hlf⟩ := id spf
    have dom2 : ∀ a ∈ [lf], ∃ o, H2 a = some o := fun a ha => by rw [List.mem_singleton.mp ha]; exact ⟨_, hlf⟩
    dsimp only
    refine rd_setS [lf] dom2 (gw_lst (gx_cons (gw_tup (gx_cons (gw_lst (gx_cons (gw_int (i := 2)) (gx_cons (gw_int (i := 1)) (gx_cons (gw_int (i := 0)) (gx_cons (gw_int (i := 3)) gx_nil))))) (gx_cons (gw_bl (b := true)) gx_nil))) (gx_cons (gw_tup (gx_cons (gw_lst (gx_cons (gw_int (i := 0)) (gx_cons (gw_int (i := 3)) (gx_cons (gw_int (i := 2)) (gx_cons (gw_int (i := 1)) gx_nil))))) (gx_cons (gw_bl (b := true)) gx_nil))) (gx_cons (gw_tup (gx_cons (gw_lst (gx_cons (gw_int (i := 1)) (gx_cons (gw_int (i := 0)) (gx_cons (gw_int (i := 3)) (gx_cons (gw_int (i := 2)) gx_nil))))) (gx_cons (gw_bl (b := true)) gx_nil))) (gx_cons (gw_tup (gx_cons (gw_lst (gx_cons (gw_int (i := 0)) (gx_cons (gw_int (i := 2)) (gx_cons (gw_int (i := 1)) (gx_cons (gw_int (i := 3)) gx_nil))))) (gx_cons (gw_bl (b := false)) gx_nil))) gx_nil))))) fun v3 H3 s3 d3 => ?_
    obtain ⟨a3, vs3, rfl, h3, x3⟩ := dx_lst d3
    refine rd_catS [lf] (dom_same s3 dom2) rfl (off_some h3).2 x3 (gw_lst (gx_cons (gw_tup (gx_cons (gw_lst (gx_cons (gw_int (i := 0)) (gx_cons (gw_int (i := 1)) (gx_cons (gw_int (i := 2)) gx_nil)))) (gx_cons (gw_bl (b := false)) gx_nil))) (gx_cons (gw_tup (gx_cons (gw_lst (gx_cons (gw_int (i := 0)) (gx_cons (gw_int (i := 1)) (gx_cons (gw_int (i := 2)) (gx_cons (gw_int (i := 2)) gx_nil))))) (gx_cons (gw_bl (b := false)) gx_nil))) (gx_cons (gw_tup (gx_cons (gw_lst (gx_cons (gw_int (i := 0)) (gx_cons (gw_int (i := 1)) (gx_cons (gw_int (i := 2)) (gx_cons (gw_num (n := -1) (fun H Q h => ⟨_, rfl, h⟩)) gx_nil))))) (gx_cons (gw_bl (b := false)) gx_nil))) gx_nil)))) (by decide) fun a4 vs4 H4 n4 s4 h4 x4 => ?_
    refine rd_catS [lf] (dom_same (s3.trans s4) dom2) rfl h4 x4 (gw_lst (gx_cons (gw_tup (gx_cons (gw_lst gx_nil) (gx_cons (gw_bl (b := false)) gx_nil))) (gx_cons (gw_tup (gx_cons (gw_lst (gx_cons (gw_int (i := 0)) (gx_cons (gw_int (i := 1)) (gx_cons (gw_int (i := 2)) (gx_cons (gw_int (i := 3)) (gx_cons (gw_int (i := 4)) gx_nil)))))) (gx_cons (gw_bl (b := false)) gx_nil))) gx_nil))) (by decide) fun a5 vs5 H5 n5 s5 h5 x5 => ?_
    have s25 := s3.trans (s4.trans s5)
    have s05 : Same H H5 := s1.trans (s2.trans s25)
    have tb5 := tb.ext s05
    have n5l : a5 ≠ lf := (ne_of_none (s4 _ _ (s3 _ _ hlf)) n5).symm
    have x5 : DxAll (off [lf] H5) vs5 (fdue.map fun p => .tup [intsD p.1, .bl p.2]) := x5
    refine ⟨_, rfl, pf, _, dxf, _, _, rfl, s25 _ _ hpf, T.cls_Spaced, T.na_Spaced_order, orF_order _, _, rfl, tb5, fun H6 e6 t6 => ?_⟩
    have keep6 : ∀ {b : Addr} {o : HO}, H5 b = some o → (∀ ps, o ≠ .tbl ps) → H6 b = some o := fun h n => e6 _ _ h n
    have hls6 := keep6 (s25 _ _ (s2 _ _ hls)) (fun _ z => by cases z)
    have hpf6 := keep6 (s25 _ _ hpf) (fun _ z => by cases z)
    have hlf6 := keep6 (s25 _ _ hlf) (fun _ z => by cases z)
    have h56 := keep6 h5 (fun _ z => by cases z)
    have nsl : ls ≠ lf := ne_of_none hls nlf
    have npl : pf ≠ lf := fun z => by rw [z, hlf] at hpf; cases hpf
    refine ⟨lf, a5, orderFor fsongs 1, vs5, fdue, rfl, rfl, hlf6, h56, n5l, dxAll_mono (ext_off e6) (dxAll_nt x5), fun p hp => (f_sh p hp).2, fun p hp X fX hX Q' hQ => ?_, fun H7 f7 h7 => ⟨_, rfl, iteF ?_⟩⟩
    · exact ⟨_, rfl, pf, dxf, _, rfl, fX.one npl hpf6, orF_shows _, _, rfl, pf, lf, ls, fsongs, p.1, 1, rfl, ⟨⟨dxf, fX.one npl hpf6⟩, hX⟩, SqL.of (fX.one nsl hls6), by decide, fun X2 x2 => by rw [(f_sh p hp).1]; exact hQ X2 x2⟩
    have s67 : Same H6 H7 := same_back f7 hlf6 h7
    have ex7 : LamX.ExtN H H7 := ((LamX.ExtN.of s05).trans e6).trans (LamX.ExtN.of s67)
    have t7 := t6.ext s67
    have hls7 := s67 _ _ hls6
    have hpf7 := s67 _ _ hpf6
    -- a song changed
    refine ⟨_, rfl, ls, _, _, 1, rfl, rfl, hls7, rfl, to_put fun H8 f8 h8 => ?_⟩
    have nps : pf ≠ ls := fun z => by rw [z, hls7] at hpf7; cases hpf7
    have nls' : lf ≠ ls := nsl.symm
    have hpf8 := f8.one nps hpf7
    have hlf8 := f8.one nls' h7
    have t8 : LamX.Tabs (TL K) H8 := tabs_put t7 hls7 f8
    have ex8 : LamX.ExtN H H8 := ext_fra ex7 f8 (fun x hx => by rw [List.mem_singleton.mp hx]; exact nls)
    refine ⟨_, rfl, pf, dxf, _, rfl, hpf8, orF_shows _, _, rfl, pf, lf, ls, [0, 0, 0, 1], orderFor fsongs 1, 1, rfl, ⟨⟨dxf, hpf8⟩, hlf8⟩, SqL.of h8, by decide, fun H9 s9 => ?_⟩
    rw [f_sh0.1]
    refine ⟨_, _, rfl, rfl, _, rfl, iteF ?_⟩
    have h9 := s9 _ _ h8
    refine ⟨_, rfl, ls, _, _, 1, rfl, rfl, h9, rfl, to_put fun H10 f10 h10 => ?_⟩
    have h10 : H10 ls = some (.lst (fsongs.map V.int)) := h10
    have t10 : LamX.Tabs (TL K) H10 := tabs_put (t8.ext s9) h9 f10
    have ex10 : LamX.ExtN H H10 := ext_fra (ex8.trans (LamX.ExtN.of s9)) f10 (fun x hx => by rw [List.mem_singleton.mp hx]; exact nls)
    have hpf10 := f10.one nps (s9 _ _ hpf8)
    have hlf10 := f10.one nls' (s9 _ _ hlf8)
    -- pairs
    refine iE_of ⟨by show 8 ≤ sizeLine; decide, fun lp nlp => to_new nlp fun H11 s11 hlp => ?_⟩
    have hlp : H11 lp = some (.lst (fpairs.map V.int)) := hlp
    refine ⟨_, rfl, lp, fpairs, 5, rfl, SqL.of hlp, ⟨by decide, by unfold SgOk; decide +kernel⟩, ⟨by decide, by decide⟩, fun e => absurd e (by rw [f_b2]; simp), fun ss e pb lb H12 npb nlb s12 bab => ?_⟩
    obtain rfl : [0, 1, 2, 3] = ss := Option.some.inj (f_b2.symm.trans e)
    obtain ⟨⟨dxb, hpb⟩, hlb⟩ := id bab
    have dom12 : ∀ a ∈ [lb], ∃ o, H12 a = some o := fun a ha => by rw [List.mem_singleton.mp ha]; exact ⟨_, hlb⟩
    dsimp only
    refine rd_setS [lb] dom12 (gw_lst (gx_cons (gw_tup (gx_cons (gw_lst (gx_cons (gw_int (i := 0)) (gx_cons (gw_int (i := 1)) (gx_cons (gw_int (i := 2)) gx_nil)))) (gx_cons (gw_bl (b := true)) gx_nil))) (gx_cons (gw_tup (gx_cons (gw_lst (gx_cons (gw_int (i := 0)) (gx_cons (gw_int (i := 1)) (gx_cons (gw_int (i := 3)) gx_nil)))) (gx_cons (gw_bl (b := true)) gx_nil))) (gx_cons (gw_tup (gx_cons (gw_lst (gx_cons (gw_int (i := 1)) (gx_cons (gw_int (i := 2)) (gx_cons (gw_int (i := 3)) gx_nil)))) (gx_cons (gw_bl (b := true)) gx_nil))) (gx_cons (gw_tup (gx_cons (gw_lst (gx_cons (gw_int (i := 0)) (gx_cons (gw_int (i := 1)) (gx_cons (gw_int (i := 2)) (gx_cons (gw_int (i := 3)) gx_nil))))) (gx_cons (gw_bl (b := true)) gx_nil))) gx_nil))))) fun v13 H13 s13 d13 => ?_
    obtain ⟨a13, vs13, rfl, h13, x13⟩ := dx_lst d13
    refine rd_catS [lb] (dom_same s13 dom12) rfl (off_some h13).2 x13 (gw_lst (gx_cons (gw_tup (gx_cons (gw_lst (gx_cons (gw_int (i := 0)) (gx_cons (gw_int (i := 1)) gx_nil))) (gx_cons (gw_bl (b := false)) gx_nil))) (gx_cons (gw_tup (gx_cons (gw_lst (gx_cons (gw_int (i := 0)) gx_nil)) (gx_cons (gw_bl (b := false)) gx_nil))) (gx_cons (gw_tup (gx_cons (gw_lst (gx_cons (gw_int (i := 2)) (gx_cons (gw_int (i := 1)) (gx_cons (gw_int (i := 0)) gx_nil)))) (gx_cons (gw_bl (b := false)) gx_nil))) (gx_cons (gw_tup (gx_cons (gw_lst (gx_cons (gw_int (i := 0)) (gx_cons (gw_int (i := 1)) (gx_cons (gw_int (i := 4)) gx_nil)))) (gx_cons (gw_bl (b := false)) gx_nil))) gx_nil))))) (by decide) fun a14 vs14 H14 n14 s14 h14 x14 => ?_
    refine rd_catS [lb] (dom_same (s13.trans s14) dom12) rfl h14 x14 (gw_lst (gx_cons (gw_tup (gx_cons (gw_lst gx_nil) (gx_cons (gw_bl (b := false)) gx_nil))) (gx_cons (gw_tup (gx_cons (gw_lst (gx_cons (gw_int (i := 0)) (gx_cons (gw_int (i := 0)) (gx_cons (gw_int (i := 1)) (gx_cons (gw_int (i := 2)) gx_nil))))) (gx_cons (gw_bl (b := false)) gx_nil))) gx_nil))) (by decide) fun a15 vs15 H15 n15 s15 h15 x15 => ?_
    have s125 := s13.trans (s14.trans s15)
    have s1015 : Same H10 H15 := s11.trans (s12.trans s125)
    have n15l : a15 ≠ lb := (ne_of_none (s14 _ _ (s13 _ _ hlb)) n15).symm
    have x15 : DxAll (off [lb] H15) vs15 (fdue2.map fun p => .tup [intsD p.1, .bl p.2]) := x15
    refine ⟨_, rfl, pf, dxf, _, rfl, s1015 _ _ hpf10, orF_shows _, _, rfl, pf, lf, ls, fsongs, orderFor fsongs 1, 1, rfl, ⟨⟨dxf, s1015 _ _ hpf10⟩, s1015 _ _ hlf10⟩, SqL.of (s1015 _ _ h10), by decide, fun H16 s16 => ?_⟩
    rw [f_sh0.2]
    refine ⟨_, _, rfl, rfl, _, rfl, iteF ?_⟩
    have hpb16 := s16 _ _ (s125 _ _ hpb)
    refine ⟨_, rfl, _, _, _, _, _, rfl, .own _, ty_ins hpb16 T.cls_Barred T.ic_Barred, T.ki_Barred_Barred, _, rfl, iteF ?_⟩
    have s1016 : Same H10 H16 := s1015.trans s16
    have t16 := t10.ext s1016
    have ex16 := ex10.trans (LamX.ExtN.of s1016)
    refine ⟨_, rfl, pb, _, dxb, _, _, rfl, hpb16, T.cls_Barred, T.na_Barred_singers, siF_singers _, _, rfl, t16, fun H17 e17 t17 => ?_⟩
    have keep17 : ∀ {b : Addr} {o : HO}, H16 b = some o → (∀ ps, o ≠ .tbl ps) → H17 b = some o := fun h n => e17 _ _ h n
    have hlp17 := keep17 (s16 _ _ (s125 _ _ (s12 _ _ hlp))) (fun _ z => by cases z)
    have hpb17 := keep17 hpb16 (fun _ z => by cases z)
    have hlb17 := keep17 (s16 _ _ (s125 _ _ hlb)) (fun _ z => by cases z)
    have h157 := keep17 (s16 _ _ h15) (fun _ z => by cases z)
    have npl' : lp ≠ lb := ne_of_none hlp nlb
    have npbl : pb ≠ lb := fun z => by rw [z, hlb] at hpb; cases hpb
    refine ⟨lb, a15, [0, 1, 2, 3], vs15, fdue2, rfl, rfl, hlb17, h157, n15l, dxAll_mono (ext_off e17) (dxAll_nt (dxAll_mono (off_mono s16) x15)), fun p hp => (f_ba p hp).2, fun p hp X fX hX Q' hQ => ?_, fun H18 f18 h18 => ⟨_, rfl, iteF ?_⟩⟩
    · exact ⟨_, rfl, pb, dxb, _, rfl, fX.one npbl hpb17, siF_shows _, _, rfl, pb, lb, lp, fpairs, p.1, 5, rfl, ⟨⟨dxb, fX.one npbl hpb17⟩, hX⟩, SqL.of (fX.one npl' hlp17), by decide, ⟨by decide, by decide⟩, (f_ba p hp).2, fun X2 x2 => by rw [(f_ba p hp).1]; exact hQ X2 x2⟩
    have s178 : Same H17 H18 := same_back f18 hlb17 h18
    have ex18 := (ex16.trans e17).trans (LamX.ExtN.of s178)
    have t18 := t17.ext s178
    have hlp18 := s178 _ _ hlp17
    -- rows
    dsimp only
    refine rd_setD (gv_lst (ga_cons (gv_tup (ga_cons (gv_int (i := 4)) (ga_cons (gv_lst (ga_cons (gv_int (i := 0)) (ga_cons (gv_int (i := 1)) (ga_cons (gv_int (i := 2)) (ga_cons (gv_int (i := 3)) ga_nil))))) (ga_cons (gv_bl (b := true)) ga_nil)))) (ga_cons (gv_tup (ga_cons (gv_int (i := 4)) (ga_cons (gv_lst (ga_cons (gv_int (i := 0)) (ga_cons (gv_int (i := 1)) (ga_cons (gv_int (i := 2)) ga_nil)))) (ga_cons (gv_bl (b := false)) ga_nil)))) (ga_cons (gv_tup (ga_cons (gv_int (i := 6)) (ga_cons (gv_lst (ga_cons (gv_int (i := 0)) (ga_cons (gv_int (i := 3)) ga_nil))) (ga_cons (gv_bl (b := true)) ga_nil)))) (ga_cons (gv_tup (ga_cons (gv_int (i := 6)) (ga_cons (gv_lst (ga_cons (gv_int (i := 1)) ga_nil)) (ga_cons (gv_bl (b := false)) ga_nil)))) (ga_cons (gv_tup (ga_cons (gv_int (i := 7)) (ga_cons (gv_lst (ga_cons (gv_int (i := 2)) ga_nil)) (ga_cons (gv_bl (b := true)) ga_nil)))) ga_nil)))))) fun v19 H19 s19 d19 => ?_
    obtain ⟨a19, vs19, rfl, h19, x19⟩ := dx_lst d19
    refine rd_catD rfl h19 x19 (gv_lst (ga_cons (gv_tup (ga_cons (gv_int (i := 7)) (ga_cons (gv_lst (ga_cons (gv_int (i := 0)) (ga_cons (gv_int (i := 1)) ga_nil))) (ga_cons (gv_bl (b := false)) ga_nil)))) (ga_cons (gv_tup (ga_cons (gv_int (i := 8)) (ga_cons (gv_lst (ga_cons (gv_int (i := 3)) ga_nil)) (ga_cons (gv_bl (b := true)) ga_nil)))) (ga_cons (gv_tup (ga_cons (gv_int (i := 8)) (ga_cons (gv_lst (ga_cons (gv_int (i := 0)) (ga_cons (gv_int (i := 1)) ga_nil))) (ga_cons (gv_bl (b := false)) ga_nil)))) (ga_cons (gv_tup (ga_cons (gv_int (i := 3)) (ga_cons (gv_lst (ga_cons (gv_int (i := 0)) (ga_cons (gv_int (i := 1)) (ga_cons (gv_int (i := 2)) (ga_cons (gv_int (i := 3)) ga_nil))))) (ga_cons (gv_bl (b := false)) ga_nil)))) ga_nil))))) (by decide) fun a20 vs20 H20 n20 s20 h20 x20 => ?_
    have x20 : DxAll H20 vs20 (frows.map fun p => .tup [.int p.1, intsD p.2.1, .bl p.2.2]) := dxAll_mono (off_le _ _) x20
    have hlp20 := s20 _ _ (s19 _ _ hlp18)
    refine ⟨_, rfl, a20, rfl, ⟨_, SqL.of h20⟩, for_list (K := K) (a := a20) (xs := vs20) (fun i σ H' => ∃ x6 x7 x8 : Option V, σ = [some (.ref ls), some (.ref pf), some (.ref a15), some (.ref lp), some (.ref pb), some (.ref a20), x6, x7, x8] ∧ Same H20 H') ?_ ?_ ?_ ?_⟩
    · exact ⟨_, _, _, rfl, Same.refl _⟩
    · rintro i σ G _ ⟨x6, x7, x8, rfl, g⟩
      exact SqL.of (g _ _ h20)
    · rintro i v σ G hv ⟨x6, x7, x8, rfl, g⟩
      obtain ⟨d, hd, xd⟩ := dxAll_get (dxAll_mono g x20) hv
      rw [List.getElem?_map] at hd
      obtain ⟨p, hp, rfl⟩ : ∃ p, frows[i]? = some p ∧ d = .tup [.int p.1, intsD p.2.1, .bl p.2.2] := by
        cases e : frows[i]? with
        | none => rw [e] at hd; cases hd
        | some p => rw [e] at hd; exact ⟨p, rfl, (Option.some.inj hd).symm⟩
      obtain ⟨b1, b2, b3, b4⟩ := f_rows p (List.mem_of_getElem? hp)
      obtain ⟨t, c, rfl, ht, hcc⟩ := dx_row xd
      refine ⟨t, _, rfl, SqT.of ht, rfl, _, _, rfl, _, _, rfl, _, _, rfl, rfl, ?_⟩
      refine ⟨_, rfl, fun y dy ny ndy ned => ?_⟩
      refine ⟨y, dy, c, p.2.1.map V.int, rfl, (made_same ny ndy (Fra.refl _ _)).seq (SqL.of hcc), upd_same, fun l' J1 f1 nl' hl' hy => ⟨rfl, ?_⟩⟩
      have j1 : Same G J1 := made_same ny ndy f1
      refine ⟨y, dy, _, rfl, hy, siF_shows _, _, rfl, _, rfl, y, l', lp, fpairs, p.2.1, p.1, rfl, ⟨⟨dy, hy⟩, hl'⟩, SqL.of (j1 _ _ (g _ _ hlp20)), by decide, ⟨b3, by omega⟩, b2, fun J2 j2 => ?_⟩
      rw [b1]
      refine ⟨_, rfl, rfl, false, by simp, iteF ?_⟩
      exact ⟨_, _, _, rfl, g.trans (j1.trans j2)⟩
    rintro σ G ⟨x6, x7, x8, rfl, g⟩
    have hlpG := g _ _ hlp20
    refine ⟨_, rfl, lp, _, _, 1, rfl, rfl, hlpG, rfl, to_put fun H21 f21 h21 => ?_⟩
    have s1820 : Same H18 G := s19.trans (s20.trans g)
    have t21 : LamX.Tabs (TL K) H21 := tabs_put (t18.ext s1820) hlpG f21
    have ex21 : LamX.ExtN H H21 := ext_fraT (ex18.trans (LamX.ExtN.of s1820)) f21 (fun x hx o ho k => by
      rw [List.mem_singleton.mp hx] at ho
      have := ex10 _ _ ho k
      rw [nlp] at this; cases this)
    refine iE_of ⟨by show 3 ≤ sizeLine; decide, fun l22 n22 => to_new n22 fun H22 s22 h22 => ?_⟩
    intro y dy ny ndy ned
    refine ⟨y, dy, l22, [V.int 0, .int 1, .int 2], rfl, (made_same ny ndy (Fra.refl _ _)).seq (SqL.of h22), upd_same, fun l' J1 f1 nl' hl' hy => ⟨rfl, ?_⟩⟩
    have j1 : Same H22 J1 := made_same ny ndy f1
    refine ⟨y, dy, _, rfl, hy, siF_shows _, _, rfl, y, l', lp, [0, 4, 1, 1, 2, 2, 3, 3], [0, 1, 2], 5, rfl, ⟨⟨dy, hy⟩, hl'⟩, SqL.of (j1 _ _ (s22 _ _ h21)), by decide, ⟨by decide, by decide⟩, by decide, fun J2 j2 => ?_⟩
    rw [f_last]
    refine ⟨_, _, rfl, rfl, _, rfl, iteT ?_⟩
    refine iE_of ⟨by show 8 ≤ sizeLine; decide, fun l23 n23 => to_new n23 fun H23 s23 h23 => ?_⟩
    have h23 : H23 l23 = some (.lst (fpairs.map V.int)) := h23
    refine ⟨l23, fpairs, 3, rfl, SqL.of h23, ⟨by decide, by unfold SgOk; decide +kernel⟩, ⟨by decide, by decide⟩, fun _ p24 l24 H24 np24 nl24 s24 sp24 => ?_, fun ss e => absurd e (by rw [f_b3]; simp)⟩
    obtain ⟨⟨dx24, hp24⟩, _⟩ := sp24
    refine ⟨_, _, _, _, _, rfl, .own _, ty_ins hp24 T.cls_Spaced T.ic_Spaced, T.ki_Spaced_Spaced, ?_⟩
    have sE : Same H21 H24 := s22.trans (j1.trans (j2.trans (s23.trans s24)))
    exact q H24 (ex21.trans (LamX.ExtN.of sE)) (t21.ext sE)
end
end Song

/-! ### L13: the law k13 -/
namespace Song
open PySem L2
def spLawT (K : PySem.W.Frag) : Sp := fun vs H Q _ => ∃ (a : Addr) (ns : List Int), vs = [.ref a] ∧ SqL K H a (ns.map V.int) ∧ Scr ns ∧ LamX.Tabs (TL K) H ∧ ∀ H', Q (.bl true) H'
section
variable {P : Program} {w : World} {K : PySem.W.Frag} {mg : Str → Option Value} {base : Heap}
theorem sc_law : FnScope ["_law_script", "_law_value_here", "_law_place"] ["_law_script"] (defScope s_law) := ⟨rfl, rfl, rfl, by decide +kernel, rfl, by decide +kernel, by decide +kernel⟩
theorem ok_law0 {fd : FuncData} (T : Tx K mg) (B : ∀ p ∈ tf, LamX.TabB base mg (He.cT K p).1 (He.cT K p).2) (F : FnP K "law" "law" s_law (He.ga K "law") fd) : FnOk P w K mg base CX0 10 (He.ga K "law") fd ["_law_script"] (spLawT K) := by
  refine F.ok (CX := CX0) sc_law (fun vs H Q E h => ?_) (fun cdv A outer s H vs Q E hr h => ?_)
  · obtain ⟨a, ns, rfl, _⟩ := h; rfl
  · obtain ⟨a, ns, rfl, hs, hb, tb, q⟩ := h
    refine ⟨_, PSs.nox (pss_cons (ps_set (i := 0) sc_law.nd rfl (by first | exact Or.inl rfl | exact Or.inr rfl) (pe_slice (show SlR _ (rSlL K) from sl_list) (pv 0) po_none (po_some pe_int)))
      (pss_cons (ps_if (pt_not (pt_val (pe_fn0 (fn__law_wholes_right T) (hr.mono (by first | decide | omega)) (by rfl)))) (pss_one (ps_ret pe_bl)) pss_nil)
      (pss_cons (ps_set (i := 1) sc_law.nd rfl (by first | exact Or.inl rfl | exact Or.inr rfl) (pe_fn (fn__law_value T) (hr.mono (by first | decide | omega)) (by rfl) (pa_cons (pe_fn (fn__law_cell_at T) (hr.mono (by first | decide | omega)) (by rfl) (pa_cons (pv 0) (pa_cons pe_int pa_nil))) (pa_cons pe_int pa_nil))))
      (pss_cons (ps_if (PW.pt (pw_or (pt_not (pt_val (pe_fn (fn__law_alike_right T) (hr.mono (by first | decide | omega)) (by rfl) (pa_cons (pe_op op_add pe_int (pe_op op_mod (pv 1) pe_int)) (pa_cons (pe_op op_fdivW (pv 1) pe_int) pa_nil))))) (pw_or1 (pt_not (pt_val (pe_fn (fn__law_evenings_right T B) (hr.mono (by first | decide | omega)) (by rfl) (pa_cons (pe_op op_mod (pv 1) pe_int) pa_nil))))))) (pss_one (ps_ret pe_bl)) pss_nil)
      (pss_cons (ps_if (PW.pt (pw_or (pt_not (pt_val (pe_fn0 (fn__law_tales_right T) (hr.mono (by first | decide | omega)) (by rfl)))) (pw_or1 (pt_not (pt_val (pe_fn0 (fn__law_more_right T) (hr.mono (by first | decide | omega)) (by rfl))))))) (pss_one (ps_ret pe_bl)) pss_nil)
      (pss_cons (ps_if (PW.pt (pw_or (pt_not (pt_val (pe_fn0 (fn__law_fields_right T B) (hr.mono (by first | decide | omega)) (by rfl)))) (pw_or1 (pt_not (pt_val (pe_fn (fn__law_exchanged_right T) (hr.mono (by first | decide | omega)) (by rfl) (pa_cons (pe_op op_mod (pe_op op_fdivW (pv 1) pe_int) pe_int) pa_nil))))))) (pss_one (ps_ret pe_bl)) pss_nil)
      (pss_cons (ps_for PassesOwn.never rfl (show PI _ _ _ (iTup K _) from pi_tup (pe_tup (pa_cons (pe_op op_mod (pe_op op_fdivW (pv 1) pe_int) pe_int) (pa_cons pe_int pa_nil)))) (pg_name (i := 2) sc_law.nd rfl (by first | exact Or.inl rfl | exact Or.inr rfl))
      (pss_one (ps_if (pt_not (pt_val (pe_fn (fn__law_spoiled_right T B) (hr.mono (by first | decide | omega)) (by rfl) (pa_cons (pv 2) (pa_cons (pe_op op_fdivW (pv 1) pe_int) pa_nil))))) (pss_one (ps_ret pe_bl)) pss_nil)))
      (pss_one (ps_ret pe_bl))))))))), ?_⟩
    refine ⟨_, rfl, _, rfl, a, _, rfl, hs, fun z nz => ?_⟩
    rw [cut63 hb.1]
    refine to_new nz fun H1 s1 hz => ?_
    have cb : ∀ k : Int, Bits 1048600 (cellAt ns k) := fun k => (hb.cell k).mono (by decide)
    refine ⟨rfl, fun H2 s2 => ⟨_, rfl, iteF ?_⟩⟩
    refine ⟨_, rfl, z, ns, 0, rfl, SqL.of (s2 _ _ hz), by decide, _, _, rfl, cb _, by decide, by decide, fun H3 s3 => ?_⟩
    have v0 := lawValue_nn (cellAt ns 0) 3
    generalize lawValue (cellAt ns 0) 3 = v at v0 ⊢
    have t3 : LamX.Tabs (TL K) H3 := tb.ext (s1.trans (s2.trans s3))
    refine ⟨_, rfl, _, _, rfl, rfl, (show (0 : Int) < 5 by decide), _, _, rfl, rfl, _, rfl, _, _, rfl, rfl, cdivS (by decide) (by decide), _, _, rfl, by omega, by omega, by omega, fun H4 s4 => ⟨_, rfl, iteF ?_⟩⟩
    refine ⟨_, rfl, _, _, rfl, rfl, (show (0 : Int) < 10 by decide), _, rfl, by omega, by omega, t3.ext s4, fun H5 e5 t5 => ⟨_, rfl, iteF ?_⟩⟩
    refine ⟨rfl, fun H6 s6 => ⟨_, rfl, iteF ?_⟩⟩
    refine ⟨rfl, fun H7 s7 => ⟨_, rfl, iteF ?_⟩⟩
    refine ⟨rfl, t5.ext (s6.trans s7), fun H8 e8 t8 => ⟨_, rfl, iteF ?_⟩⟩
    refine ⟨_, rfl, _, _, rfl, rfl, cdivS (by decide) (by decide), _, _, rfl, rfl, (show (0 : Int) < 23 by decide), _, rfl, by omega, by omega, fun H9 s9 => ⟨_, rfl, iteF ?_⟩⟩
    refine ⟨_, rfl, _, _, rfl, rfl, cdivS (by decide) (by decide), _, _, rfl, rfl, (show (0 : Int) < 30 by decide), by show 2 ≤ sizeLine; decide, fun tt ntt => to_new ntt fun H10 s10 htt => ?_⟩
    have t10 : LamX.Tabs (TL K) H10 := t8.ext (s9.trans s10)
    refine ⟨tt, rfl, ⟨_, SqT.of htt⟩, for_tup (K := K) (a := tt) (xs := [V.int (v / 230 % 30), V.int 29]) (fun i σ H' => ∃ x2 : Option V, σ = [some (.ref z), some (.int v), x2] ∧ LamX.ExtN H10 H' ∧ LamX.Tabs (TL K) H') ?_ ?_ ?_ ?_⟩
    · exact ⟨_, rfl, LamX.ExtN.refl _, t10⟩
    · rintro i σ G _ ⟨x2, rfl, g, _⟩
      exact SqT.of (g _ _ htt fun _ z => by cases z)
    · rintro i x σ G hv ⟨x2, rfl, g, tG⟩
      obtain ⟨k, rfl, k0, k1⟩ : ∃ k : Int, x = .int k ∧ 0 ≤ k ∧ k < 30 := by
        have hm := List.mem_of_getElem? hv
        simp only [List.mem_cons, List.not_mem_nil, or_false] at hm
        rcases hm with rfl | rfl
        · exact ⟨_, rfl, by omega, by omega⟩
        · exact ⟨29, rfl, by decide, by decide⟩
      refine ⟨_, rfl, _, rfl, _, _, rfl, rfl, ⟨by decide, by decide⟩, _, _, rfl, k0, k1, tG, fun G2 g2 t2 => ⟨_, rfl, iteF ?_⟩⟩
      exact ⟨_, rfl, g.trans g2, t2⟩
    rintro σ G ⟨x2, rfl, g, tG⟩
    exact q G
end
end Song

namespace Song
open PySem L2
def fn : List He.DefD := [d_counts_of, d_bars, d_barring, d_least_between, d_keeps, d_turns_in, d_order_for, d_is_whole, d_are_numbers, d_check_many, d_are_singers, d_check_songs, d_check_groups, d_floor_of, d_round_for, d_in_turn, d_more_ahead, d_Evening___init__, d_Evening_wish, d_Evening_sing, d_Evening_look_at, d_Evening_withdraw, d_Evening_round_now, d_Evening_waits, d_Evening_ahead_of, d_Evening_within, d_Evening_worst, d_Evening_tale, d_is_part, d_first_wrong, d_Right_shows, d_Wrong___init__, d_Wrong_shows, d_Spaced___init__, d_Spaced_shows, d_Barred___init__, d_Barred_shows, d_spaced, d_least_gap, d_widest, d_all_orders, d_widest_few, d_judged, d__law_cell_at, d__law_draw, d__law_value, d__law_kinds, d__law_due_of, d__law_made_into, d__law_alike_right, d__law_evenings_right, d__law_tales_right, d__law_more_right, d__law_fields_right, d__law_exchanged_right, d__law_spoiled_right, d__law_all_whole, d__law_wholes_right, d_law]
def fa : List He.Fa := [.glo "counts_of", .glo "bars", .glo "barring", .glo "least_between", .glo "keeps", .glo "turns_in", .glo "order_for", .glo "TurnError", .exc "TurnError", .glo "BadMany", .exc "BadMany", .glo "BadSingers", .exc "BadSingers", .glo "BadSong", .exc "BadSong", .glo "BadTale", .exc "BadTale", .glo "BadSongs", .exc "BadSongs", .glo "BadGap", .exc "BadGap", .glo "BadOrder", .exc "BadOrder", .glo "TooMany", .exc "TooMany", .int "MOST_SINGERS" 6, .int "MOST_OF_SONG" 3, .int "MOST_SONGS" 24, .int "FEW" 5, .glo "is_whole", .glo "are_numbers", .glo "check_many", .glo "are_singers", .glo "check_songs", .glo "check_groups", .glo "floor_of", .glo "round_for", .glo "in_turn", .glo "more_ahead", .glo "Evening", .cls "Evening", .mkr "Evening", .meth "Evening" "wish", .meth "Evening" "sing", .meth "Evening" "look_at", .meth "Evening" "withdraw", .meth "Evening" "round_now", .meth "Evening" "waits", .meth "Evening" "ahead_of", .meth "Evening" "within", .meth "Evening" "worst", .meth "Evening" "tale", .noat "Evening" "came", .noat "Evening" "going", .noat "Evening" "last", .noat "Evening" "rounds", .noat "Evening" "waiting", .glo "is_part", .glo "first_wrong", .glo "Answer", .cls "Answer", .glo "Right", .cls "Right", .meth "Right" "shows", .glo "Wrong", .cls "Wrong", .mkr "Wrong", .meth "Wrong" "shows", .noat "Wrong" "place", .glo "Spaced", .cls "Spaced", .mkr "Spaced", .meth "Spaced" "shows", .noat "Spaced" "order", .glo "Barred", .cls "Barred", .mkr "Barred", .meth "Barred" "shows", .noat "Barred" "singers", .glo "spaced", .glo "least_gap", .glo "widest", .glo "all_orders", .glo "widest_few", .int "MOST_PARTS" 30, .glo "judged", .glo "_law_cell_at", .glo "_law_draw", .glo "_law_value", .glo "_law_kinds", .glo "_law_due_of", .glo "_law_made_into", .glo "_law_alike_right", .glo "_law_evenings_right", .glo "_law_tales_right", .glo "_law_more_right", .glo "_law_fields_right", .glo "_law_exchanged_right", .glo "_law_spoiled_right", .glo "_law_all_whole", .glo "_law_wholes_right", .glo "law", .free "len", .free "isinstance", .free "all", .free "any", .free "range", .free "sorted", .free "set", .free "max", .free "min", .free "list", .free "enumerate", .free "zip", .free "int", .free "bool", .free "tuple", .free "str", .free "dict", .free "abs", .free "ValueError"]
abbrev R : PySem.W.OpenRow := PySem.W.OpenLaw.row PySem.Challenge.rw_songturns_k13_whole_hard
def ex : List (PySem.W.Frag → Bool) := [fun K => mkB K (He.ga K "Answer"), fun K => mkB K (He.ga K "Right"), fun K => isCB K (He.ga K "Evening"), fun K => decide (PySem.W.kitOne K (.ref (He.ga K "Evening")) (.ref (He.ga K "Barred")) = some false), fun K => decide (PySem.W.kitOne K (.ref (He.ga K "Evening")) (.ref (He.ga K "Right")) = some false), fun K => decide (PySem.W.kitOne K (.ref (He.ga K "Evening")) (.ref (He.ga K "Spaced")) = some false), fun K => decide (PySem.W.kitOne K (.ref (He.ga K "Evening")) (.ref (He.ga K "Wrong")) = some false), fun K => isCB K (He.ga K "Answer"), fun K => decide (PySem.W.kitOne K (.ref (He.ga K "Answer")) (.ref (He.ga K "Barred")) = some false), fun K => decide (PySem.W.kitOne K (.ref (He.ga K "Answer")) (.ref (He.ga K "Right")) = some false), fun K => decide (PySem.W.kitOne K (.ref (He.ga K "Answer")) (.ref (He.ga K "Spaced")) = some false), fun K => decide (PySem.W.kitOne K (.ref (He.ga K "Answer")) (.ref (He.ga K "Wrong")) = some false), fun K => isCB K (He.ga K "Right"), fun K => decide (PySem.W.kitOne K (.ref (He.ga K "Right")) (.ref (He.ga K "Barred")) = some false), fun K => decide (PySem.W.kitOne K (.ref (He.ga K "Right")) (.ref (He.ga K "Right")) = some true), fun K => decide (PySem.W.kitOne K (.ref (He.ga K "Right")) (.ref (He.ga K "Spaced")) = some false), fun K => decide (PySem.W.kitOne K (.ref (He.ga K "Right")) (.ref (He.ga K "Wrong")) = some false), fun K => isCB K (He.ga K "Wrong"), fun K => decide (PySem.W.kitOne K (.ref (He.ga K "Wrong")) (.ref (He.ga K "Barred")) = some false), fun K => decide (PySem.W.kitOne K (.ref (He.ga K "Wrong")) (.ref (He.ga K "Right")) = some false), fun K => decide (PySem.W.kitOne K (.ref (He.ga K "Wrong")) (.ref (He.ga K "Spaced")) = some false), fun K => decide (PySem.W.kitOne K (.ref (He.ga K "Wrong")) (.ref (He.ga K "Wrong")) = some true), fun K => isCB K (He.ga K "Spaced"), fun K => decide (PySem.W.kitOne K (.ref (He.ga K "Spaced")) (.ref (He.ga K "Barred")) = some false), fun K => decide (PySem.W.kitOne K (.ref (He.ga K "Spaced")) (.ref (He.ga K "Right")) = some false), fun K => decide (PySem.W.kitOne K (.ref (He.ga K "Spaced")) (.ref (He.ga K "Spaced")) = some true), fun K => decide (PySem.W.kitOne K (.ref (He.ga K "Spaced")) (.ref (He.ga K "Wrong")) = some false), fun K => isCB K (He.ga K "Barred"), fun K => decide (PySem.W.kitOne K (.ref (He.ga K "Barred")) (.ref (He.ga K "Barred")) = some true), fun K => decide (PySem.W.kitOne K (.ref (He.ga K "Barred")) (.ref (He.ga K "Right")) = some false), fun K => decide (PySem.W.kitOne K (.ref (He.ga K "Barred")) (.ref (He.ga K "Spaced")) = some false), fun K => decide (PySem.W.kitOne K (.ref (He.ga K "Barred")) (.ref (He.ga K "Wrong")) = some false), fun K => kmB K, fun K => decide ((tf.map fun p => (He.cT K p).2).Nodup)]
abbrev hk : PySem.W.Hook := He.hookX 4 fa fn [] tf (exOk ex)
def ob (s : PySem.W.SharedT) : He.AlX := He.obsX 4 fa fn [] tf (exOk ex) (HandSHeadRun.getT s)
theorem ob_eq (s : PySem.W.SharedT) : ob s = hk.obs s.abs := He.obsX_eq (HandSHeadRun.getT_eq s)
def loose0 : List Str := ["__name__", "counts_of", "bars", "barring", "least_between", "keeps", "turns_in", "order_for", "TurnError", "BadMany", "BadSingers", "BadSong", "BadTale", "BadSongs", "BadGap", "BadOrder", "TooMany", "MOST_SINGERS", "MOST_OF_SONG", "MOST_SONGS", "FEW", "is_whole", "are_numbers", "check_many", "are_singers", "check_songs", "check_groups", "floor_of", "round_for", "in_turn"]
def loose1 : List Str := ["more_ahead", "Evening", "is_part", "first_wrong", "Answer", "Right", "Wrong", "Spaced", "Barred", "spaced", "least_gap", "widest", "all_orders", "widest_few", "MOST_PARTS", "judged", "_law_cell_at", "_law_draw", "_law_value", "_law_kinds", "_law_due_of", "_law_made_into", "_law_alike_right", "_law_evenings_right", "_law_tales_right", "_law_more_right", "_law_fields_right", "_law_exchanged_right", "_law_spoiled_right", "_law_all_whole"]
def loose2 : List Str := ["_law_wholes_right"]
def loose : List Str := loose0 ++ loose1 ++ loose2
theorem tx_of {K : PySem.W.Frag} {h : Heap} {mg : Str → Option Value} (X : K.In h) (G : h.Ns mainGlobals mg) (c : He.SaysD fa fn K) (c2 : exOk ex K = true) : Tx K mg :=
  ⟨He.glo_ok X G (c.fact 0 (f := .glo "counts_of") rfl),
   He.glo_ok X G (c.fact 1 (f := .glo "bars") rfl),
   He.glo_ok X G (c.fact 2 (f := .glo "barring") rfl),
   He.glo_ok X G (c.fact 3 (f := .glo "least_between") rfl),
   He.glo_ok X G (c.fact 4 (f := .glo "keeps") rfl),
   He.glo_ok X G (c.fact 5 (f := .glo "turns_in") rfl),
   He.glo_ok X G (c.fact 6 (f := .glo "order_for") rfl),
   He.glo_ok X G (c.fact 7 (f := .glo "TurnError") rfl),
   exk_of (He.glo_ok X G (c.fact 7 (f := .glo "TurnError") rfl)) (He.exc_ok (c.fact 8 (f := .exc "TurnError") rfl)),
   He.glo_ok X G (c.fact 9 (f := .glo "BadMany") rfl),
   exk_of (He.glo_ok X G (c.fact 9 (f := .glo "BadMany") rfl)) (He.exc_ok (c.fact 10 (f := .exc "BadMany") rfl)),
   He.glo_ok X G (c.fact 11 (f := .glo "BadSingers") rfl),
   exk_of (He.glo_ok X G (c.fact 11 (f := .glo "BadSingers") rfl)) (He.exc_ok (c.fact 12 (f := .exc "BadSingers") rfl)),
   He.glo_ok X G (c.fact 13 (f := .glo "BadSong") rfl),
   exk_of (He.glo_ok X G (c.fact 13 (f := .glo "BadSong") rfl)) (He.exc_ok (c.fact 14 (f := .exc "BadSong") rfl)),
   He.glo_ok X G (c.fact 15 (f := .glo "BadTale") rfl),
   exk_of (He.glo_ok X G (c.fact 15 (f := .glo "BadTale") rfl)) (He.exc_ok (c.fact 16 (f := .exc "BadTale") rfl)),
   He.glo_ok X G (c.fact 17 (f := .glo "BadSongs") rfl),
   exk_of (He.glo_ok X G (c.fact 17 (f := .glo "BadSongs") rfl)) (He.exc_ok (c.fact 18 (f := .exc "BadSongs") rfl)),
   He.glo_ok X G (c.fact 19 (f := .glo "BadGap") rfl),
   exk_of (He.glo_ok X G (c.fact 19 (f := .glo "BadGap") rfl)) (He.exc_ok (c.fact 20 (f := .exc "BadGap") rfl)),
   He.glo_ok X G (c.fact 21 (f := .glo "BadOrder") rfl),
   exk_of (He.glo_ok X G (c.fact 21 (f := .glo "BadOrder") rfl)) (He.exc_ok (c.fact 22 (f := .exc "BadOrder") rfl)),
   He.glo_ok X G (c.fact 23 (f := .glo "TooMany") rfl),
   exk_of (He.glo_ok X G (c.fact 23 (f := .glo "TooMany") rfl)) (He.exc_ok (c.fact 24 (f := .exc "TooMany") rfl)),
   He.int_ok X G (c.fact 25 (f := .int "MOST_SINGERS" 6) rfl),
   He.int_ok X G (c.fact 26 (f := .int "MOST_OF_SONG" 3) rfl),
   He.int_ok X G (c.fact 27 (f := .int "MOST_SONGS" 24) rfl),
   He.int_ok X G (c.fact 28 (f := .int "FEW" 5) rfl),
   He.glo_ok X G (c.fact 29 (f := .glo "is_whole") rfl),
   He.glo_ok X G (c.fact 30 (f := .glo "are_numbers") rfl),
   He.glo_ok X G (c.fact 31 (f := .glo "check_many") rfl),
   He.glo_ok X G (c.fact 32 (f := .glo "are_singers") rfl),
   He.glo_ok X G (c.fact 33 (f := .glo "check_songs") rfl),
   He.glo_ok X G (c.fact 34 (f := .glo "check_groups") rfl),
   He.glo_ok X G (c.fact 35 (f := .glo "floor_of") rfl),
   He.glo_ok X G (c.fact 36 (f := .glo "round_for") rfl),
   He.glo_ok X G (c.fact 37 (f := .glo "in_turn") rfl),
   He.glo_ok X G (c.fact 38 (f := .glo "more_ahead") rfl),
   He.glo_ok X G (c.fact 39 (f := .glo "Evening") rfl),
   He.cls_ok (c.fact 40 (f := .cls "Evening") rfl),
   He.mkr_ok (c.fact 41 (f := .mkr "Evening") rfl),
   He.meth_ok (c.fact 42 (f := .meth "Evening" "wish") rfl),
   He.meth_ok (c.fact 43 (f := .meth "Evening" "sing") rfl),
   He.meth_ok (c.fact 44 (f := .meth "Evening" "look_at") rfl),
   He.meth_ok (c.fact 45 (f := .meth "Evening" "withdraw") rfl),
   He.meth_ok (c.fact 46 (f := .meth "Evening" "round_now") rfl),
   He.meth_ok (c.fact 47 (f := .meth "Evening" "waits") rfl),
   He.meth_ok (c.fact 48 (f := .meth "Evening" "ahead_of") rfl),
   He.meth_ok (c.fact 49 (f := .meth "Evening" "within") rfl),
   He.meth_ok (c.fact 50 (f := .meth "Evening" "worst") rfl),
   He.meth_ok (c.fact 51 (f := .meth "Evening" "tale") rfl),
   He.noat_ok (c.fact 52 (f := .noat "Evening" "came") rfl),
   He.noat_ok (c.fact 53 (f := .noat "Evening" "going") rfl),
   He.noat_ok (c.fact 54 (f := .noat "Evening" "last") rfl),
   He.noat_ok (c.fact 55 (f := .noat "Evening" "rounds") rfl),
   He.noat_ok (c.fact 56 (f := .noat "Evening" "waiting") rfl),
   He.glo_ok X G (c.fact 57 (f := .glo "is_part") rfl),
   He.glo_ok X G (c.fact 58 (f := .glo "first_wrong") rfl),
   He.glo_ok X G (c.fact 59 (f := .glo "Answer") rfl),
   He.cls_ok (c.fact 60 (f := .cls "Answer") rfl),
   He.glo_ok X G (c.fact 61 (f := .glo "Right") rfl),
   He.cls_ok (c.fact 62 (f := .cls "Right") rfl),
   He.meth_ok (c.fact 63 (f := .meth "Right" "shows") rfl),
   He.glo_ok X G (c.fact 64 (f := .glo "Wrong") rfl),
   He.cls_ok (c.fact 65 (f := .cls "Wrong") rfl),
   He.mkr_ok (c.fact 66 (f := .mkr "Wrong") rfl),
   He.meth_ok (c.fact 67 (f := .meth "Wrong" "shows") rfl),
   He.noat_ok (c.fact 68 (f := .noat "Wrong" "place") rfl),
   He.glo_ok X G (c.fact 69 (f := .glo "Spaced") rfl),
   He.cls_ok (c.fact 70 (f := .cls "Spaced") rfl),
   He.mkr_ok (c.fact 71 (f := .mkr "Spaced") rfl),
   He.meth_ok (c.fact 72 (f := .meth "Spaced" "shows") rfl),
   He.noat_ok (c.fact 73 (f := .noat "Spaced" "order") rfl),
   He.glo_ok X G (c.fact 74 (f := .glo "Barred") rfl),
   He.cls_ok (c.fact 75 (f := .cls "Barred") rfl),
   He.mkr_ok (c.fact 76 (f := .mkr "Barred") rfl),
   He.meth_ok (c.fact 77 (f := .meth "Barred" "shows") rfl),
   He.noat_ok (c.fact 78 (f := .noat "Barred" "singers") rfl),
   He.glo_ok X G (c.fact 79 (f := .glo "spaced") rfl),
   He.glo_ok X G (c.fact 80 (f := .glo "least_gap") rfl),
   He.glo_ok X G (c.fact 81 (f := .glo "widest") rfl),
   He.glo_ok X G (c.fact 82 (f := .glo "all_orders") rfl),
   He.glo_ok X G (c.fact 83 (f := .glo "widest_few") rfl),
   He.int_ok X G (c.fact 84 (f := .int "MOST_PARTS" 30) rfl),
   He.glo_ok X G (c.fact 85 (f := .glo "judged") rfl),
   He.glo_ok X G (c.fact 86 (f := .glo "_law_cell_at") rfl),
   He.glo_ok X G (c.fact 87 (f := .glo "_law_draw") rfl),
   He.glo_ok X G (c.fact 88 (f := .glo "_law_value") rfl),
   He.glo_ok X G (c.fact 89 (f := .glo "_law_kinds") rfl),
   He.glo_ok X G (c.fact 90 (f := .glo "_law_due_of") rfl),
   He.glo_ok X G (c.fact 91 (f := .glo "_law_made_into") rfl),
   He.glo_ok X G (c.fact 92 (f := .glo "_law_alike_right") rfl),
   He.glo_ok X G (c.fact 93 (f := .glo "_law_evenings_right") rfl),
   He.glo_ok X G (c.fact 94 (f := .glo "_law_tales_right") rfl),
   He.glo_ok X G (c.fact 95 (f := .glo "_law_more_right") rfl),
   He.glo_ok X G (c.fact 96 (f := .glo "_law_fields_right") rfl),
   He.glo_ok X G (c.fact 97 (f := .glo "_law_exchanged_right") rfl),
   He.glo_ok X G (c.fact 98 (f := .glo "_law_spoiled_right") rfl),
   He.glo_ok X G (c.fact 99 (f := .glo "_law_all_whole") rfl),
   He.glo_ok X G (c.fact 100 (f := .glo "_law_wholes_right") rfl),
   He.glo_ok X G (c.fact 101 (f := .glo "law") rfl),
   He.free_ok X G (c.fact 102 (f := .free "len") rfl),
   He.free_ok X G (c.fact 103 (f := .free "isinstance") rfl),
   He.free_ok X G (c.fact 104 (f := .free "all") rfl),
   He.free_ok X G (c.fact 105 (f := .free "any") rfl),
   He.free_ok X G (c.fact 106 (f := .free "range") rfl),
   He.free_ok X G (c.fact 107 (f := .free "sorted") rfl),
   He.free_ok X G (c.fact 108 (f := .free "set") rfl),
   He.free_ok X G (c.fact 109 (f := .free "max") rfl),
   He.free_ok X G (c.fact 110 (f := .free "min") rfl),
   He.free_ok X G (c.fact 111 (f := .free "list") rfl),
   He.free_ok X G (c.fact 112 (f := .free "enumerate") rfl),
   He.free_ok X G (c.fact 113 (f := .free "zip") rfl),
   He.free_ok X G (c.fact 114 (f := .free "int") rfl),
   He.free_ok X G (c.fact 115 (f := .free "bool") rfl),
   He.free_ok X G (c.fact 116 (f := .free "tuple") rfl),
   He.free_ok X G (c.fact 117 (f := .free "str") rfl),
   He.free_ok X G (c.fact 118 (f := .free "dict") rfl),
   He.free_ok X G (c.fact 119 (f := .free "abs") rfl),
   He.free_ok X G (c.fact 120 (f := .free "ValueError") rfl),
   c.def_ 0 (d := d_counts_of) rfl,
   c.def_ 1 (d := d_bars) rfl,
   c.def_ 2 (d := d_barring) rfl,
   c.def_ 3 (d := d_least_between) rfl,
   c.def_ 4 (d := d_keeps) rfl,
   c.def_ 5 (d := d_turns_in) rfl,
   c.def_ 6 (d := d_order_for) rfl,
   c.def_ 7 (d := d_is_whole) rfl,
   c.def_ 8 (d := d_are_numbers) rfl,
   c.def_ 9 (d := d_check_many) rfl,
   c.def_ 10 (d := d_are_singers) rfl,
   c.def_ 11 (d := d_check_songs) rfl,
   c.def_ 12 (d := d_check_groups) rfl,
   c.def_ 13 (d := d_floor_of) rfl,
   c.def_ 14 (d := d_round_for) rfl,
   c.def_ 15 (d := d_in_turn) rfl,
   c.def_ 16 (d := d_more_ahead) rfl,
   c.def_ 17 (d := d_Evening___init__) rfl,
   c.def_ 18 (d := d_Evening_wish) rfl,
   c.def_ 19 (d := d_Evening_sing) rfl,
   c.def_ 20 (d := d_Evening_look_at) rfl,
   c.def_ 21 (d := d_Evening_withdraw) rfl,
   c.def_ 22 (d := d_Evening_round_now) rfl,
   c.def_ 23 (d := d_Evening_waits) rfl,
   c.def_ 24 (d := d_Evening_ahead_of) rfl,
   c.def_ 25 (d := d_Evening_within) rfl,
   c.def_ 26 (d := d_Evening_worst) rfl,
   c.def_ 27 (d := d_Evening_tale) rfl,
   c.def_ 28 (d := d_is_part) rfl,
   c.def_ 29 (d := d_first_wrong) rfl,
   c.def_ 30 (d := d_Right_shows) rfl,
   c.def_ 31 (d := d_Wrong___init__) rfl,
   c.def_ 32 (d := d_Wrong_shows) rfl,
   c.def_ 33 (d := d_Spaced___init__) rfl,
   c.def_ 34 (d := d_Spaced_shows) rfl,
   c.def_ 35 (d := d_Barred___init__) rfl,
   c.def_ 36 (d := d_Barred_shows) rfl,
   c.def_ 37 (d := d_spaced) rfl,
   c.def_ 38 (d := d_least_gap) rfl,
   c.def_ 39 (d := d_widest) rfl,
   c.def_ 40 (d := d_all_orders) rfl,
   c.def_ 41 (d := d_widest_few) rfl,
   c.def_ 42 (d := d_judged) rfl,
   c.def_ 43 (d := d__law_cell_at) rfl,
   c.def_ 44 (d := d__law_draw) rfl,
   c.def_ 45 (d := d__law_value) rfl,
   c.def_ 46 (d := d__law_kinds) rfl,
   c.def_ 47 (d := d__law_due_of) rfl,
   c.def_ 48 (d := d__law_made_into) rfl,
   c.def_ 49 (d := d__law_alike_right) rfl,
   c.def_ 50 (d := d__law_evenings_right) rfl,
   c.def_ 51 (d := d__law_tales_right) rfl,
   c.def_ 52 (d := d__law_more_right) rfl,
   c.def_ 53 (d := d__law_fields_right) rfl,
   c.def_ 54 (d := d__law_exchanged_right) rfl,
   c.def_ 55 (d := d__law_spoiled_right) rfl,
   c.def_ 56 (d := d__law_all_whole) rfl,
   c.def_ 57 (d := d__law_wholes_right) rfl,
   c.def_ 58 (d := d_law) rfl,
   mkB_ok (exAll 0 c2 rfl),
   mkB_ok (exAll 1 c2 rfl),
   isCB_ok (exAll 2 c2 rfl),
   of_decide_eq_true (exAll 3 c2 rfl),
   of_decide_eq_true (exAll 4 c2 rfl),
   of_decide_eq_true (exAll 5 c2 rfl),
   of_decide_eq_true (exAll 6 c2 rfl),
   isCB_ok (exAll 7 c2 rfl),
   of_decide_eq_true (exAll 8 c2 rfl),
   of_decide_eq_true (exAll 9 c2 rfl),
   of_decide_eq_true (exAll 10 c2 rfl),
   of_decide_eq_true (exAll 11 c2 rfl),
   isCB_ok (exAll 12 c2 rfl),
   of_decide_eq_true (exAll 13 c2 rfl),
   of_decide_eq_true (exAll 14 c2 rfl),
   of_decide_eq_true (exAll 15 c2 rfl),
   of_decide_eq_true (exAll 16 c2 rfl),
   isCB_ok (exAll 17 c2 rfl),
   of_decide_eq_true (exAll 18 c2 rfl),
   of_decide_eq_true (exAll 19 c2 rfl),
   of_decide_eq_true (exAll 20 c2 rfl),
   of_decide_eq_true (exAll 21 c2 rfl),
   isCB_ok (exAll 22 c2 rfl),
   of_decide_eq_true (exAll 23 c2 rfl),
   of_decide_eq_true (exAll 24 c2 rfl),
   of_decide_eq_true (exAll 25 c2 rfl),
   of_decide_eq_true (exAll 26 c2 rfl),
   isCB_ok (exAll 27 c2 rfl),
   of_decide_eq_true (exAll 28 c2 rfl),
   of_decide_eq_true (exAll 29 c2 rfl),
   of_decide_eq_true (exAll 30 c2 rfl),
   of_decide_eq_true (exAll 31 c2 rfl),
   km_ok (exAll 32 c2 rfl),
   of_decide_eq_true (exAll 33 c2 rfl)⟩
theorem run (w : World) : HandSHeadRun.RunEq R (PySem.W.view R.prog [70]) hk ob 6000 loose w := by
  intro os
  kernel_rfl
end Song

/-! ### EndT: the law's call with tables, the head -/
namespace Song
open PySem L2
theorem factsT {l : PySem.W.OpenLaw} {w : World} {K : PySem.W.Frag} {h : Heap} {mg : Str → Option Value} {f : Addr} (X : K.In h) (G : h.Ns mainGlobals mg) (hfa : mg ("law" : Str) = some (.ref f)) (c : He.SaysX fa fn [] tf (exOk ex) w h K) :
    LamX.LawAtS l w K CX0 10 63 "_law_script" mg f h := by
  have T := tx_of X G c.t.d c.more
  obtain ⟨fd, F⟩ := T.d_law
  have e : He.ga K "law" = f := by
    have z := T.g_law.symm.trans hfa
    injection z with z; injection z
  subst e
  have b := FunD.bindsA (ps := ["_law_script"]) F fun _ _ _ _ _ _ us hl => match us, hl with | [_], _ => rfl
  refine ⟨fd, tf.map (He.cT K), spLawT K, fun p hp => ?_, fun p hp => ?_, fun p hp => ?_, fun s v => b s [v] rfl, fun H a ns hl hz hT hS => ?_, fun base _ _ TB => ?_⟩
  · obtain ⟨q, hq, rfl⟩ := List.mem_map.mp hp
    exact c.empty q hq
  · obtain ⟨q, hq, rfl⟩ := List.mem_map.mp hp
    exact c.out q hq
  · obtain ⟨q, hq, rfl⟩ := List.mem_map.mp hp
    exact PySem.W.codeHd_of_K X (c.hd q hq)
  · refine ⟨a, ns, rfl, hS, ⟨hl, fun z hm => Bits.of_int (hz z hm)⟩, fun p hp => ?_, fun _ => rfl⟩
    obtain ⟨q, hq, rfl⟩ := List.mem_map.mp hp
    exact LamX.TabS.nil (hT _ (List.mem_map.mpr ⟨q, hq, rfl⟩))
  · exact ok_law0 (P := l.prog) (w := w) (base := base) T (fun p hp => TB _ (List.mem_map.mpr ⟨p, hp, rfl⟩)) F
end Song
open PySem PySem.W PySem.Calls PyProof.Rows
set_option maxHeartbeats 0 in
theorem PySem.Challenge.cw_songturns_k13_whole_hard_holds : PySem.Challenge.rw_songturns_k13_whole_hard.Holds := by
  w_on; o_law
  refine HandSHeadRun.head_any (r := OpenLaw.row PySem.Challenge.rw_songturns_k13_whole_hard) (q := view (OpenLaw.row PySem.Challenge.rw_songturns_k13_whole_hard).prog [70]) (H := Song.hk) (ob := Song.ob) (M := 6000) (loose := Song.loose) (d := HandSHeadRun.topDef (OpenLaw.row PySem.Challenge.rw_songturns_k13_whole_hard).prog 70) (kwd := []) Song.ob_eq
    (by kernel_rfl) (fun s => by kernel_rfl) Song.run (by kernel_rfl) (by kernel_rfl) (by kernel_rfl) (by rfl) (by first | assumption | decide +kernel) (by decide +kernel) ⟨rfl, rfl, rfl, rfl, rfl, by decide +kernel⟩ ?hw ?hc
  case hw => w_witness2
  case hc =>
    refine LamX.walk_ofTsE (l := PySem.Challenge.rw_songturns_k13_whole_hard) (n := 63) (k := 10) (x := "_law_script") (CX := fun _ => L2.CX0) rfl (by decide) (by kernel_rfl) ⟨rfl, by decide, by decide⟩ ?F (fun _ _ _ _ _ z => z)
    intro w mg fa h Y G hmg0
    obtain ⟨K, KX, c⟩ := Y
    have hmg : mg ("law" : PySem.Str) = some (.ref fa) := by
      have e : (HandSHeadRun.topDef (OpenLaw.row PySem.Challenge.rw_songturns_k13_whole_hard).prog 70).name = ("law" : PySem.Str) := by kernel_rfl
      rw [← e]
      exact hmg0
    exact ⟨K, KX, Song.factsT (l := PySem.Challenge.rw_songturns_k13_whole_hard) (w := w) KX G hmg c⟩
#print axioms PySem.Challenge.cw_songturns_k13_whole_hard_holds
