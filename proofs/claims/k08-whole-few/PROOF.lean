import PyProof.Rows.All
import Wide.All
import OpenK.AllK
import Wide.FinOn
import KE.KStateDown
import HandS.ForMost
import HandS.IsInst
import HandS.Defaults
import HandS.Wide
import HandS.SortInts
import HandS.SortRule
import HandS.Strs
import HandS.SetFor
import HandS.Style
import HandS.Conv
import HandS.More
import HandS.Walk
import HandS.Flow
import HandS.Head0
import HandS.Head1
import HandS.Head2
import HandS.HeadEnd
import HandS.HeadHook1
import HandS.HeadHook2
import HandS.EndBits
import HandS.WordsDict
import HandS.Small
import PySem.Challenge.RW_songturns_k08_whole_few
set_option Elab.async false
set_option linter.all false
set_option maxRecDepth 100000
set_option maxHeartbeats 4000000
/-! ### SetL: set(xs) of a list of int numbers, as a value -/
namespace Song
open PySem PySem.Spec PyProof.Rows L2
/-- a set just laid -/
abbrev set0 (w : World) : Obj := ⟨.type "set", none, .set #[] 0 (.fresh 0 0 (!w.params.followText "set-order")), #[]⟩
section
variable {P : Program} {w : World} {A : Around} {E : Value → Shared → Prop} {s : Shared}
set_option maxHeartbeats 8000000 in
theorem set_of_list {l : Addr} {its : Array Value} (ks : List Int) {Q : Value → Shared → Prop} (nh : A.handled = none) (isl : s.heap.IsList l its) (hint : IntsAre its.toList ks) (few : ks.length + 1 < scanBound)
    (q : ∀ (h2 : Heap) (tk c : Nat), SetR w h2 s.heap.objs.size (fun j => decide (j ∈ ks)) c → c ≤ ks.length → (∀ b o, s.heap.get? b = some o → h2.get? b = some o) → Q (.ref s.heap.objs.size) { s with heap := h2, toks := tk }) :
    wpAny (model P w) A (call (.type "set") [.ref l]) Q E s := by
  have lenI : its.size = ks.length := by have z := IntsAre.length hint; rw [Array.length_toList] at z; exact z
  obtain ⟨_, _, mroS⟩ := F.called_set.mro
  have madeS := F.called_set.made
  have subS := F.called_set.sub
  refine wpAny_call (codeAny_of_tree ?_)
  show wpAny _ _ (callAny (.type "set") _) _ _ _
  refine wpAny_pure ⟨Code.quiet_builtin _ (by decide +kernel), codeAny_builtin F.entry_type_call ?_⟩
  rw [Around.under_plain (weight_type_call_type "set" [.ref l] []) rfl]
  have n1 := F.called_set.notType
  have n2 := F.called_set.canCreate
  have n3 := F.typeCall_set_1 (.ref l)
  repeat (any_goals (first | assumption | wp_step))
  refine codeAny_mono (code_set_led1 (.ref l) (E := E) (Q₁ := fun ob s1 => ob = .ref s.heap.objs.size ∧ s1 = { s with heap := s.heap.push (set0 w) }) ⟨rfl, rfl⟩) fun res s1 hres => ?_
  cases res with
  | error e => exact hres
  | ok fl =>
    cases fl with
    | ret ob =>
      obtain ⟨rfl, rfl⟩ := hres
      have atS : (s.heap.push (set0 w)).get? s.heap.objs.size = some (set0 w) := Heap.get?_push_size _ rfl
      have tyS : Shared.TypeIs { s with heap := s.heap.push (set0 w) } (.ref s.heap.objs.size) "set" := ⟨_, atS, rfl⟩
      have i1 := F.called_set.init.lookup
      have i2 := F.called_set.init.bind (.ref s.heap.objs.size)
      repeat (any_goals (first | assumption | wp_step))
      refine codeAny_mono (codeAny_call_builtin (R := wants (fun r s2 => r = .none ∧ ∃ h2 tk c, s2 = { s with heap := h2, toks := tk } ∧ SetR w h2 s.heap.objs.size (fun j => decide (j ∈ ks)) c ∧ c ≤ ks.length ∧
        (∀ b o, s.heap.get? b = some o → h2.get? b = some o)) E) F.called_set.init.plain F.entry_set_init (check_set_init_1 tyS ?_)) fun r2 s2 hr2 => ?_
      · obtain ⟨⟨oc, od, odt, osl⟩, ho, c1, nl, c2⟩ := isl
        simp only at c1 c2
        subst c1; subst c2
        have ho1 : (s.heap.push (set0 w)).get? l = some ⟨.type "list", od, .seq its nl, osl⟩ := Heap.get?_push_of_some _ ho
        have u1 := F.sub_list_set
        have u2 := F.sub_list_frozenset
        have u3 : (Value.type "list" == Value.type "dict") = false := by decide
        have isl1 : (s.heap.push (set0 w)).IsList l its := ⟨_, ho1, rfl, nl, rfl⟩
        unfold Builtin.«set.__init__» noKeywords Builtin.Frozenset.updateFrom
        generalize keepI : pyIter = PI
        wp_walk
        subst keepI
        refine wpAny_pyIter_list isl1 ?_
        refine wpAny_bind (wpAny_runValue ?_)
        have lt : l < s.heap.objs.size := Heap.lt_size ho
        have nh3 : A.in1.in1.in1.handled = none := by simp [nh]
        have ne1 : l ≠ (s.heap.push (set0 w)).objs.size := by rw [Heap.size_push]; exact Nat.ne_of_lt (Nat.lt_succ_of_lt lt)
        have ne2 : s.heap.objs.size ∉ [(s.heap.push (set0 w)).objs.size, l] := by
          rw [Heap.size_push]
          simp only [List.mem_cons, List.not_mem_nil, or_false, not_or]
          exact And.intro (Nat.ne_of_lt (Nat.lt_succ_self _)) (Nat.ne_of_gt lt)
        have vals : ∀ (i : Nat) (v : Value), its[i]? = some v → ∃ k t, ks[i]? = some k ∧ v = .int k t := fun i v hv => by
          have lti : i < ks.length := by rw [← lenI]; exact (Array.getElem?_eq_some_iff.mp hv).1
          obtain ⟨t, e⟩ := PyProof.Rows.IntsAre.int_at hint i v (by rw [Array.getElem?_toList]; exact hv)
          refine ⟨ks[i], t, List.getElem?_eq_getElem lti, ?_⟩
          rw [e, List.getD_eq_getElem?_getD, List.getElem?_eq_getElem lti] <;> rfl
        refine set_update_ints ((Walks.list nh3 _ l ne1 its).toS) s.heap.objs.size ne2 ks lenI few vals (its.size - 0) 0 _ (by omega) (Nat.zero_le _)
          ⟨⟨_, Heap.get?_push_size _ rfl, rfl, rfl⟩, (isl1.push _)⟩ ⟨0, Nat.le_refl 0, setR_new_at (Heap.get?_push_of_some _ atS)⟩ ?_
        intro s3 c3 mv hc3 hS3
        obtain ⟨h3, g3, d3, t3, o3⟩ := s3
        have eg : g3 = s.gens := mv.gens
        have ed : d3 = s.drawn := mv.drawn
        have eo : o3 = s.os := mv.os
        subst eg; subst ed; subst eo
        show wpAny _ _ _ _ _ _
        refine wpAny_pure ?_
        show wpAny _ _ (ret Value.none) _ _ _
        rw [lenI] at hc3
        refine wpAny_pure ⟨rfl, h3, t3, c3, rfl, hS3, hc3, fun b o e => ?_⟩
        have b0 : b < s.heap.objs.size := Heap.lt_size e
        refine mv.heap b o ?_ (Heap.get?_push_of_some _ (Heap.get?_push_of_some _ e))
        rw [Heap.size_push]
        simp only [List.mem_cons, List.not_mem_nil, or_false, not_or]
        exact And.intro (Nat.ne_of_lt b0) (Nat.ne_of_lt (Nat.lt_succ_of_lt b0))
      · cases r2 with
        | error e => exact hr2
        | ok f2 =>
          cases f2 with
          | ret r =>
            obtain ⟨rfl, h2, tk, c, rfl, hS, hc, hk⟩ := hr2
            repeat (any_goals (first | assumption | wp_step))
            exact q _ _ _ hS hc hk
          | _ => exact hr2.elim
    | _ => exact hres.elim
end
/-- set(xs), xs a list of int numbers: who is in, and no more than there were -/
def rSetI (K : PySem.W.Frag) (w : World) : List V → Hp → VK → Prop := fun xs H Q => ∃ (l : Addr) (ks : List Int), xs = [V.ref l] ∧ SqL K H l (ks.map V.int) ∧ ks.length ≤ 1000 ∧
  ∀ (a : Addr) (c : Nat), c ≤ ks.length → H a = none → Q (.ref a) (upd H a (SetO w a (fun j => decide (j ∈ ks)) c))
theorem cr_setI {X : Cx} (hc : X.calm = true) : CallR X (.type "set") (rSetI X.K X.w) := by
  intro pins s σ H xs us Q I r h
  obtain ⟨l, ks, rfl, hs, hl, q⟩ := h
  obtain ⟨its, rv, ⟨o, n, ho, c1, c2, c3⟩, hlen⟩ := I.list hs
  have hint : IntsAre its ks := ints_of_vals rv
  have isl : s.heap.IsList l its.toArray := ⟨o, ho, c1, n, c3⟩
  rw [Vals.ref1 r]
  refine set_of_list ks (I.ok.hd hc) isl (by simpa using hint) (by unfold scanBound; omega) fun h2 tk c hS hcl hk => ?_
  have hn : H s.heap.objs.size = none := I.hok.fresh (Nat.le_refl _)
  obtain ⟨o2, es, ep, st, ho2, rest⟩ := id hS
  refine ⟨.ref s.heap.objs.size, _, I.laid (t' := tk) (fun b u e => hk b u e) (Nat.le_refl _) ?_, rfl, q _ c hcl hn⟩
  exact setO_new hS
end Song

/-! ### Lay: what every def's proof leans on (own layer over the hand layer) -/
namespace Song
open PySem L2

/-! #### heaps -/
theorem Same.new {H : Hp} {p : Addr} {o : HO} (n : H p = none) : Same H (upd H p o) := fun b o' e => by
  rw [upd_ne (ne_of_none e n)]
  exact e
/-- a new object: the heap behind it is only known to extend the one ahead -/
theorem new_all {H : Hp} {o : HO} {Q : Addr → Hp → Prop} (h : ∀ p H', H p = none → Same H H' → H' p = some o → Q p H') : ∀ p, H p = none → Q p (upd H p o) :=
  fun p n => h p _ n (Same.new n) upd_same
/-- behind a new object: the heap is only known to extend the one ahead -/
@[elab_as_elim] theorem to_new {H : Hp} {p : Addr} {o : HO} {Q : Hp → Prop} (n : H p = none) (h : ∀ H', Same H H' → H' p = some o → Q H') : Q (upd H p o) := h _ (Same.new n) upd_same
/-- a heap without some addresses -/
def off (S : List Addr) (H : Hp) : Hp := fun a => if a ∈ S then none else H a
theorem off_in {S : List Addr} {H : Hp} {a : Addr} (h : a ∈ S) : off S H a = none := by unfold off; rw [if_pos h]
theorem off_out {S : List Addr} {H : Hp} {a : Addr} (h : a ∉ S) : off S H a = H a := by unfold off; rw [if_neg h]
theorem off_some {S : List Addr} {H : Hp} {a : Addr} {o : HO} (h : off S H a = some o) : a ∉ S ∧ H a = some o := by
  by_cases q : a ∈ S
  · rw [off_in q] at h; cases h
  · rw [off_out q] at h; exact ⟨q, h⟩
theorem off_le (S : List Addr) (H : Hp) : Same (off S H) H := fun _ _ h => (off_some h).2
theorem off_mono {S : List Addr} {H H' : Hp} (s : Same H H') : Same (off S H) (off S H') := fun b o h => by
  obtain ⟨q, h⟩ := off_some h
  rw [off_out q]; exact s _ _ h
/-- all but the addresses S stays -/
def Fra (S : List Addr) (H H' : Hp) : Prop := ∀ a o, a ∉ S → H a = some o → H' a = some o
theorem Fra.refl (S : List Addr) (H : Hp) : Fra S H H := fun _ _ _ h => h
theorem Fra.of {S : List Addr} {H H' : Hp} (s : Same H H') : Fra S H H' := fun a o _ h => s a o h
theorem Fra.trans {S : List Addr} {H H1 H2 : Hp} (a : Fra S H H1) (b : Fra S H1 H2) : Fra S H H2 := fun c o n h => b c o n (a c o n h)
theorem Fra.mono {S S' : List Addr} {H H' : Hp} (f : Fra S H H') (h : ∀ a ∈ S, a ∈ S') : Fra S' H H' := fun a o n e => f a o (fun q => n (h a q)) e
theorem Fra.put {S : List Addr} {H : Hp} {a : Addr} {o : HO} (h : a ∈ S) : Fra S H (upd H a o) := fun b o' n e => by
  have q : b ≠ a := fun q => n (by rw [q]; exact h)
  rw [upd_ne q]; exact e
@[elab_as_elim] theorem to_put {H : Hp} {p : Addr} {o : HO} {Q : Hp → Prop} (h : ∀ H', Fra [p] H H' → H' p = some o → Q H') : Q (upd H p o) := h _ (Fra.put (by simp)) upd_same
theorem Fra.one {H H' : Hp} {p a : Addr} {o : HO} (f : Fra [p] H H') (n : a ≠ p) (h : H a = some o) : H' a = some o := f a o (by simpa using n) h
theorem Fra.off {S : List Addr} {H H' : Hp} (f : Fra S H H') : Same (off S H) (off S H') := fun b o h => by
  obtain ⟨q, h⟩ := off_some h
  rw [off_out q]; exact f _ _ q h
theorem Fra.same {H H' : Hp} (f : Fra [] H H') : Same H H' := fun b o h => f b o (by simp) h
/-- what is new to H stays outside of what H tells -/
theorem Fra.back {H0 H H' : Hp} {S : List Addr} (s : Same H0 H) (f : Fra S H H') (h : ∀ a ∈ S, H0 a = none) : Same H0 H' := fun b o e =>
  f b o (fun q => by rw [h b q] at e; cases e) (s b o e)
theorem Same.sqT {K : PySem.W.Frag} {H H' : Hp} {a : Addr} {xs : List V} (e : Same H H') (h : SqT K H a xs) : SqT K H' a xs := by
  rcases h with (h | ⟨o, h⟩) | h
  · exact .inl (.inl (e _ _ h))
  · exact .inl (.inr ⟨o, e _ _ h⟩)
  · exact .inr h
mutual
theorem dp_mono {K : PySem.W.Frag} {H H' : Hp} (e : Same H H') : ∀ {v : V} {d : PyData}, Dp K H v d → Dp K H' v d
  | _, _, .non => .non
  | _, _, .bl b => .bl b
  | _, _, .int i => .int i
  | _, _, .str x => .str x
  | _, _, .lst s a => .lst (e.seq s) (dpAll_mono e a)
  | _, _, .tup s a => .tup (Same.sqT e s) (dpAll_mono e a)
theorem dpAll_mono {K : PySem.W.Frag} {H H' : Hp} (e : Same H H') : ∀ {vs : List V} {ds : List PyData}, DpAll K H vs ds → DpAll K H' vs ds
  | _, _, .nil => .nil
  | _, _, .cons d a => .cons (dp_mono e d) (dpAll_mono e a)
end
theorem dpAll_app {K : PySem.W.Frag} {H : Hp} : ∀ {vs ws : List V} {ds es : List PyData}, DpAll K H vs ds → DpAll K H ws es → DpAll K H (vs ++ ws) (ds ++ es)
  | _, _, _, _, .nil, h => h
  | _, _, _, _, .cons d a, h => .cons d (dpAll_app a h)
theorem dpAll_len {K : PySem.W.Frag} {H : Hp} : ∀ {vs : List V} {ds : List PyData}, DpAll K H vs ds → vs.length = ds.length
  | _, _, .nil => rfl
  | _, _, .cons _ a => by simp [dpAll_len a]
theorem dpAll_get {K : PySem.W.Frag} {H : Hp} : ∀ {vs : List V} {ds : List PyData} {i : Nat} {v : V}, DpAll K H vs ds → vs[i]? = some v → ∃ d, ds[i]? = some d ∧ Dp K H v d
  | _, _, _, _, .nil, e => by simp at e
  | _, _, 0, _, .cons d a, e => by
    simp at e; subst e; exact ⟨_, rfl, d⟩
  | _, _, i + 1, v, .cons d a, e => by
    obtain ⟨d', h1, h2⟩ := dpAll_get (i := i) (v := v) a (by simpa using e)
    exact ⟨d', by simpa using h1, h2⟩
theorem dpAll_ints {K : PySem.W.Frag} {H : Hp} : ∀ (ns : List Int), DpAll K H (ns.map V.int) (ns.map PyData.int)
  | [] => .nil
  | n :: r => .cons (.int n) (dpAll_ints r)
theorem dp_ints {K : PySem.W.Frag} {H : Hp} {a : Addr} {ns : List Int} (h : SqL K H a (ns.map V.int)) : Dp K H (.ref a) (.list (ns.map PyData.int)) := .lst h (dpAll_ints ns)
theorem ints_inj : ∀ {ns ms : List Int}, ns.map V.int = ms.map V.int → ns = ms
  | [], [], _ => rfl
  | [], _ :: _, h => by cases h
  | _ :: _, [], h => by cases h
  | a :: r, b :: s, h => by
    simp only [List.map_cons, List.cons.injEq, V.int.injEq] at h
    rw [h.1, ints_inj h.2]

/-! #### calls of the program's own defs, by one word each -/
section
variable {P : Program} {w : World} {K : PySem.W.Frag} {mg : Str → Option Value} {base : Heap}
structure Fn (P : Program) (w : World) (K : PySem.W.Frag) (mg : Str → Option Value) (base : Heap) (x : Str) (k : Nat) (sp : Sp) : Prop where
  ex : ∃ (f : Addr) (fd : FuncData) (ps : List Str), FnOk P w K mg base CX0 k f fd ps sp ∧ mg x = some (.ref f) ∧ PySem.W.keepIn K (.ref f) = true ∧ Binds K fd ps []
structure Me (P : Program) (w : World) (K : PySem.W.Frag) (mg : Str → Option Value) (base : Heap) (C : Addr) (m : Str) (k : Nat) (sp : Sp) : Prop where
  ex : ∃ (f : Addr) (fd : FuncData) (ps : List Str), FnOk P w K mg base CX0 k f fd ps sp ∧ Cls K C ∧ Meth K C m f ∧ Binds K fd ps []
structure Mke (P : Program) (w : World) (K : PySem.W.Frag) (mg : Str → Option Value) (base : Heap) (x : Str) (C : Addr) (k : Nat) (sp : Sp) : Prop where
  ex : ∃ (f : Addr) (fd : FuncData) (ps : List Str), FnOk P w K mg base CX0 k f fd ps sp ∧ Mk K C f ∧ mg x = some (.ref C) ∧ Binds K fd ps []
abbrev FnP (K : PySem.W.Frag) (x q : Str) (st : Stmt) (f : Addr) (fd : FuncData) : Prop := FunD K x q (defArgs st) (defBody st) (defScope st) [] [] f fd
end
section
variable {X : Cx} {x m : Str} {k : Nat} {sp : Sp} {e o : Expr} {es : List Expr} {t : TA} {to : TE} {C : Addr} {p apos pos : Pos}
theorem pe_fn (F : Fn X.prog X.w X.K X.mg X.base x k sp) (hr : Room k X.A) (hg : Gl X x) (ha : PA X (e :: es) t)
    (hdb : (x == ("__debug__" : Str)) = false := by decide) (he : starEach (e :: es) X.env = (false, eval e X.env) :: starEach es X.env := by rfl) (hpl : (backTo pos (starEach es X.env)).any (·.1) = false := by rfl) :
    PE X (.Call (.Name x p) (e :: es) [] pos) (tCall sp [] E0 t) := by
  obtain ⟨f, fd, ps, h1, h2, h3, h4⟩ := F.ex
  exact pe_call h1 hr hg h2 h3 h4 .nil pass0 ha hdb he hpl
theorem pe_fn0 (F : Fn X.prog X.w X.K X.mg X.base x k sp) (hr : Room k X.A) (hg : Gl X x) (hdb : (x == ("__debug__" : Str)) = false := by decide) :
    PE X (.Call (.Name x p) [] [] pos) (tCall sp [] E0 tNil) := by
  obtain ⟨f, fd, ps, h1, h2, h3, h4⟩ := F.ex
  exact pe_call0 h1 hr hg h2 h3 h4 .nil pass0 hdb
theorem pe_me {pl : Sem Bool} (F : Me X.prog X.w X.K X.mg X.base C m k sp) (hr : Room k X.A) (ho : PE X o to) (ha : PA X (e :: es) t)
    (hst : starEach (e :: es) X.env = (false, eval e X.env) :: starEach es X.env := by rfl) (hpl : (backTo pos (starEach es X.env)).any (·.1) = false := by rfl)
    (ht : eval (.Call (.Attribute o m apos) (e :: es) [] pos) X.env = (do
      let ov ← eval o X.env
      standAt apos.atName
      let (f, first) ← holding [ov] (getMethod ov m pl)
      callWith pos f first (backTo pos (starEach (e :: es) X.env)) (backToKw pos (keywordEach [] X.env))) := by rfl) :
    PE X (.Call (.Attribute o m apos) (e :: es) [] pos) (tMeth C m sp [] E0 to t) := by
  obtain ⟨f, fd, ps, h1, h2, h3, h4⟩ := F.ex
  exact pe_meth ho h2 h3 h1 hr h4 .nil pass0 ha hst hpl ht
theorem pe_me0 {pl : Sem Bool} (F : Me X.prog X.w X.K X.mg X.base C m k sp) (hr : Room k X.A) (ho : PE X o to)
    (ht : eval (.Call (.Attribute o m apos) [] [] pos) X.env = (do
      let ov ← eval o X.env
      standAt apos.atName
      let (f, first) ← holding [ov] (getMethod ov m pl)
      callWith pos f first (backTo pos (starEach [] X.env)) (backToKw pos (keywordEach [] X.env))) := by rfl) :
    PE X (.Call (.Attribute o m apos) [] [] pos) (tMeth C m sp [] E0 to tNil) := by
  obtain ⟨f, fd, ps, h1, h2, h3, h4⟩ := F.ex
  exact pe_meth0 ho h2 h3 h1 hr h4 .nil pass0 ht
theorem pe_mk (F : Mke X.prog X.w X.K X.mg X.base x C k sp) (hr : Room (k + 1) X.A) (hg : Gl X x) (ha : PA X (e :: es) t)
    (hdb : (x == ("__debug__" : Str)) = false := by decide) (he : starEach (e :: es) X.env = (false, eval e X.env) :: starEach es X.env := by rfl) (hpl : (backTo pos (starEach es X.env)).any (·.1) = false := by rfl) :
    PE X (.Call (.Name x p) (e :: es) [] pos) (tMake C sp [] E0 t) := by
  obtain ⟨f, fd, ps, h1, h2, h3, h4⟩ := F.ex
  exact pe_make h2 h1 hr hg h3 h4 .nil pass0 ha hdb he hpl
theorem pe_gi {i : Int} (h : ∃ t, X.mg x = some (.int i t)) (hg : Gl X x) (hd : (x == ("__debug__" : Str)) = false := by decide) : PE X (.Name x pos) (tC (.int i)) := by
  obtain ⟨t, h⟩ := h
  exact pe_glob hg h ⟨t, rfl⟩ hd
theorem pe_gc (h : X.mg x = some (.ref C)) (hg : Gl X x) (hd : (x == ("__debug__" : Str)) = false := by decide) : PE X (.Name x pos) (tC (.ref C)) := pe_glob hg h rfl hd
theorem pe_gt {n : String} (h : X.mg x = none) (hg : Gl X x) (hv : bootBuiltins x = some (.type n)) (hn : x ≠ "__name__" := by decide) (hd : (x == ("__debug__" : Str)) = false := by decide) : PE X (.Name x pos) (tC (.ty n)) := pe_bltn hg h hv rfl hn hd
/-- * of ints, by what the model itself asks -/
theorem op_mulO : OpR X (binaryOp .Mult) (rI IntMulOk fun i j => .int (i * j)) := opI fun _ _ _ _ _ _ _ hc q => PyProof.Rows.mul_int q hc
end

/-- readings of rules that the kit states without a name -/
def rLenQ (K : PySem.W.Frag) : List V → Hp → VK → Prop := fun xs H Q => ∃ p ys, xs = [.ref p] ∧ (SqL K H p ys ∨ SqT K H p ys) ∧ Q (.int ys.length) H
def rListO (K : PySem.W.Frag) : List V → Hp → VK → Prop := fun xs H Q => ∃ p ys, xs = [.ref p] ∧ (SqL K H p ys ∨ SqT K H p ys) ∧ ∀ l, H l = none → Q (.ref l) (upd H l (.lst ys))
def rTupO (K : PySem.W.Frag) : List V → Hp → VK → Prop := fun xs H Q => ∃ p ys, xs = [.ref p] ∧ ((SqL K H p ys ∧ ∀ l, H l = none → Q (.ref l) (upd H l (.tup ys))) ∨ (SqT K H p ys ∧ Q (.ref p) H))
/-! #### comprehensions -/
section
variable {J : It} {n : Nat} {G : Hp → Prop} {Y : Nat → Hp → V → Hp → Prop} {g : TG} {tt : TT} {te : TE} {vs : List Nat} {σ : St} {H1 : Hp} {D : Addr} {Qd : Hp → Prop}
/-- what a comprehension over a walk asks -/
abbrev LcAsks (J : It) (g : TG) (tt : TT) (te : TE) (vs : List Nat) (σ : St) (H1 : Hp) (D : Addr) (Qd : Hp → Prop) : Prop :=
  ∃ W : Nat → Nat → Hp → Prop, (∃ m, W 0 m (upd H1 D (.lst []))) ∧ ∀ i m H, W i m H →
      (J.stop i H ∧ Qd H) ∨ (J.go i H ∧ ∃ Nx : Hp → Prop, (∀ H', Nx H' → ∃ m', m' < m ∧ W (i + 1) m' H') ∧ ∀ x H', J.yld i H x H' → g x (wipe σ vs) H' fun σ2 H2 => wipe σ2 vs = wipe σ vs ∧ tt σ2 H2 fun b H3 =>
        if b = true then te σ2 H3 fun y H4 => ∃ acc, H4 D = some (.lst acc) ∧ acc.length < sizeLine ∧ Nx (upd H4 D (.lst (acc ++ [y]))) else Nx H3)
theorem off_one {H : Hp} {D : Addr} {o : HO} : off [D] (upd H D o) = off [D] H := by
  funext b
  by_cases q : b ∈ [D]
  · rw [off_in q, off_in q]
  · rw [off_out q, off_out q, upd_ne (fun z => q (by simp [z]))]
theorem same_put {H1 H : Hp} {D : Addr} {o : HO} (n : H1 D = none) (s : Same H1 H) : Same H1 (upd H D o) := fun b o e => by
  rw [upd_ne (ne_of_none e n)]
  exact s _ _ e
theorem yes_of {te : TE} {σ : St} {H : Hp} {k : VK} {kn : Hp → Prop} (h : te σ H k) : tYes σ H (fun b H3 => if b = true then te σ H3 k else kn H3) := by
  unfold tYes
  dsimp only
  rw [if_pos rfl]
  exact h
/-- no test: each element's value is told by R (monotone), whatever else is laid meanwhile -/
theorem lc_all (w : Walk J n G Y) (hGm : ∀ H H', Same H H' → G H → G H') (hG : G H1) (R : Nat → Hp → V → Prop) (hR : ∀ i H H' y, Same H H' → R i H y → R i H' y) (nD : H1 D = none) (hlen : n ≤ 1000)
    (hs : ∀ (i : Nat) x H H' acc, i < n → Same H1 H → H D = some (.lst acc) → Y i H x H' → ∀ k : V → Hp → Prop, (∀ y H2, Same H H2 → R i (off [D] H2) y → k y H2) →
      g x (wipe σ vs) H' fun σ2 H2 => wipe σ2 vs = wipe σ vs ∧ te σ2 H2 k)
    (hd : ∀ ys H, Same H1 H → H D = some (.lst ys) → ys.length = n → (∀ (i : Nat) y, ys[i]? = some y → R i (off [D] H) y) → Qd H)
    (hg : ∀ x σ H Q Q', (∀ σ2 H2, Q σ2 H2 → Q' σ2 H2) → g x σ H Q → g x σ H Q') : LcAsks J g tYes te vs σ H1 D Qd := by
  refine lc_it w (fun i H => Same H1 H ∧ ∃ ys, H D = some (.lst ys) ∧ ys.length = i ∧ ∀ (j : Nat) y, ys[j]? = some y → R j (off [D] H) y) ?_ ?_ ?_ ?_
  · exact ⟨Same.new nD, [], upd_same, rfl, fun j y e => by simp at e⟩
  · intro i H _ h
    exact hGm _ _ h.1 hG
  · rintro i x H H' hi ⟨s, ys, hD, hl, hy⟩ hY
    refine hg _ _ _ _ _ (fun σ2 H2 h => ?_) (hs i x H H' ys hi s hD hY (fun y H4 => ∃ acc, H4 D = some (.lst acc) ∧ acc.length < sizeLine ∧ (Same H1 (upd H4 D (.lst (acc ++ [y]))) ∧ ∃ ys, (upd H4 D (.lst (acc ++ [y]))) D = some (.lst ys) ∧ ys.length = i + 1 ∧ ∀ (j : Nat) y', ys[j]? = some y' → R j (off [D] (upd H4 D (.lst (acc ++ [y])))) y')) ?_)
    · refine ⟨h.1, ?_⟩
      unfold tYes
      dsimp only
      rw [if_pos rfl]
      exact h.2
    · intro y H4 s4 r
      refine ⟨ys, s4 _ _ hD, Nat.lt_of_le_of_lt (show ys.length ≤ 1000 by omega) (by decide), same_put nD (s.trans s4), ys ++ [y], upd_same, by simp [hl], fun j y' e => ?_⟩
      rw [off_one]
      by_cases hj : j < ys.length
      · rw [List.getElem?_append_left hj] at e
        exact hR j _ _ _ (off_mono s4) (hy j y' e)
      · have ej : j = ys.length := by
          have := (List.getElem?_eq_some_iff.mp e).1
          simp at this; omega
        subst ej
        rw [List.getElem?_append_right (Nat.le_refl _)] at e
        simp at e
        subst e
        rw [hl]
        exact r
  · rintro H ⟨s, ys, hD, hl, hy⟩
    exact hd ys H s hD hl hy
/-- element and test are plain functions of the turn -/
theorem lc_pure (w : Walk J n G Y) (hGm : ∀ H H', Same H H' → G H → G H') (hG : G H1) (f : Nat → Option V) (nD : H1 D = none) (hlen : n ≤ 1000)
    (hs : ∀ (i : Nat) x H H', i < n → Same H1 H → Y i H x H' → ∀ (k : V → Hp → Prop) (kn : Hp → Prop), (∀ y H2, f i = some y → Same H H2 → k y H2) → (∀ H2, f i = none → Same H H2 → kn H2) →
      g x (wipe σ vs) H' fun σ2 H2 => wipe σ2 vs = wipe σ vs ∧ tt σ2 H2 fun b H3 => if b = true then te σ2 H3 k else kn H3)
    (hd : ∀ H, Same H1 H → H D = some (.lst ((List.range n).filterMap f)) → Qd H) : LcAsks J g tt te vs σ H1 D Qd := by
  refine lc_it w (fun i H => Same H1 H ∧ H D = some (.lst ((List.range i).filterMap f))) ?_ ?_ ?_ ?_
  · exact ⟨Same.new nD, upd_same⟩
  · intro i H _ h
    exact hGm _ _ h.1 hG
  · rintro i x H H' hi ⟨s, hD⟩ hY
    have hl : ((List.range i).filterMap f).length ≤ i := by
      have := List.length_filterMap_le f (List.range i)
      rwa [List.length_range] at this
    refine hs i x H H' hi s hY _ _ (fun y H4 e s4 => ?_) (fun H4 e s4 => ?_)
    · refine ⟨_, s4 _ _ hD, Nat.lt_of_le_of_lt (show _ ≤ 1000 by omega) (by decide), same_put nD (s.trans s4), ?_⟩
      rw [upd_same, List.range_succ, List.filterMap_append]
      simp [e]
    · refine ⟨s.trans s4, ?_⟩
      rw [s4 _ _ hD, List.range_succ, List.filterMap_append]
      simp [e]
  · rintro H ⟨s, hD⟩
    exact hd H s hD
theorem sqL_mono {K : PySem.W.Frag} {a : Addr} {xs : List V} (H H' : Hp) (s : Same H H') (h : SqL K H a xs) : SqL K H' a xs := s.seq h
theorem sqL2_mono {K : PySem.W.Frag} {a b : Addr} {xs ys : List V} (H H' : Hp) (s : Same H H') (h : SqL K H a xs ∧ SqL K H b ys) : SqL K H' a xs ∧ SqL K H' b ys := ⟨s.seq h.1, s.seq h.2⟩
theorem range_filterMap {α β : Type} (f : α → Option β) : ∀ (xs : List α), (List.range xs.length).filterMap (fun i => xs[i]?.bind f) = xs.filterMap f
  | [] => rfl
  | x :: xs => by
    have ih := range_filterMap f xs
    rw [List.length_cons, List.range_succ_eq_map, List.filterMap_cons, List.filterMap_map, List.filterMap_cons]
    have e : ((fun i => ((x :: xs)[i]?).bind f) ∘ Nat.succ) = fun i => (xs[i]?).bind f := by funext i; simp
    rw [e, ih]
    simp
theorem range_map {α β : Type} (f : α → β) (xs : List α) : (List.range xs.length).filterMap (fun i => xs[i]?.map f) = xs.map f := by
  have e : (fun (i : Nat) => xs[i]?.map f) = fun (i : Nat) => xs[i]?.bind fun x => some (f x) := by funext i; cases xs[i]? <;> rfl
  rw [e, range_filterMap, ← List.filterMap_eq_map]
  rfl
/-- over a list, no test, a plain function of the item -/
theorem lc_map {K : PySem.W.Frag} {a : Addr} {xs : List V} (f : V → V) (hSq : SqL K H1 a xs) (nD : H1 D = none) (hlen : xs.length ≤ 1000)
    (hs : ∀ (i : Nat) x H, xs[i]? = some x → Same H1 H → ∀ k : V → Hp → Prop, (∀ H', Same H H' → k (f x) H') → g x (wipe σ vs) H fun σ2 H2 => wipe σ2 vs = wipe σ vs ∧ te σ2 H2 k)
    (hd : ∀ H, Same H1 H → H D = some (.lst (xs.map f)) → Qd H)
    (hg : ∀ x σ H Q Q', (∀ σ2 H2, Q σ2 H2 → Q' σ2 H2) → g x σ H Q → g x σ H Q') : LcAsks (Itl K a) g tYes te vs σ H1 D Qd := by
  refine lc_pure walk_list sqL_mono hSq (fun i => xs[i]?.map f) nD hlen (fun i x H H' hi s hY k kn hk _ => ?_) (fun H s hD => hd H s (by rw [← range_map]; exact hD))
  obtain ⟨rfl, hx⟩ := hY
  refine hg _ _ _ _ _ (fun σ2 H2 h => ?_) (hs i x H' hx s k fun H2 s2 => hk _ H2 (by rw [hx]; rfl) s2)
  refine ⟨h.1, ?_⟩
  unfold tYes
  dsimp only
  rw [if_pos rfl]
  exact h.2
theorem eq_map_of {α β : Type} {f : α → β} : ∀ {xs : List α} {ys : List β}, ys.length = xs.length → (∀ (i : Nat) y, ys[i]? = some y → ∃ x, xs[i]? = some x ∧ y = f x) → ys = xs.map f
  | [], [], _, _ => rfl
  | [], _ :: _, h, _ => by cases h
  | _ :: _, [], h, _ => by cases h
  | x :: xs, y :: ys, h, r => by
    obtain ⟨x', e, ey⟩ := r 0 y rfl
    cases e
    rw [ey, eq_map_of (xs := xs) (ys := ys) (by simpa using h) fun i y' e => r (i + 1) y' (by simpa using e)]
    rfl
theorem gtup_mono {K : PySem.W.Frag} {i j : Nat} (x : V) (σ : St) (H : Hp) (Q Q' : St → Hp → Prop) (h : ∀ σ2 H2, Q σ2 H2 → Q' σ2 H2) (q : gTup K 2 (gCons (gName i) (gCons (gName j) gNil)) x σ H Q) : gTup K 2 (gCons (gName i) (gCons (gName j) gNil)) x σ H Q' := by
  obtain ⟨a, xs, e, hs, hl, v, r, er, v2, r2, er2, en, q⟩ := q
  exact ⟨a, xs, e, hs, hl, v, r, er, v2, r2, er2, en, h _ _ q⟩
theorem gname_mono {i : Nat} (x : V) (σ : St) (H : Hp) (Q Q' : St → Hp → Prop) (h : ∀ σ2 H2, Q σ2 H2 → Q' σ2 H2) (q : gName i x σ H Q) : gName i x σ H Q' := h _ _ q
end

/-! #### what sort a value is -/
def isInt : V → Bool
  | .int _ => true
  | _ => false
abbrev Kd (K : PySem.W.Frag) (H : Hp) (v : V) (t : String) : Prop := TyX K H v (.type t)
theorem kd_int {K : PySem.W.Frag} {H : Hp} (i : Int) : Kd K H (.int i) "int" := .base (.int i)
theorem kd_list {K : PySem.W.Frag} {H : Hp} {a : Addr} {xs : List V} (h : SqL K H a xs) : Kd K H (.ref a) "list" := by
  rcases h with (h | ⟨o, h⟩) | ⟨o, its, n, hk, hc, _⟩
  · exact .base (.lst h)
  · exact .base (.frz h)
  · exact .kList hk hc
theorem kd_tup {K : PySem.W.Frag} {H : Hp} {a : Addr} {xs : List V} (h : SqT K H a xs) : Kd K H (.ref a) "tuple" := by
  rcases h with (h | ⟨o, h⟩) | ⟨o, its, n, hk, hc, _⟩
  · exact .base (.tup h)
  · exact .fTuple h
  · exact .kTuple hk hc
theorem kd_isInt {K : PySem.W.Frag} {H : Hp} {v : V} {t : String} (h : Kd K H v t) : isInt v = (t == "int") := by
  generalize e : Value.type t = u at h
  cases h with
  | base b =>
    cases b <;> first | (cases e; rfl) | cases e
  | _ => cases e; rfl
theorem isi_of {K : PySem.W.Frag} {H : Hp} {v : V} {t n : String} {b : Bool} {Q : VK} (h : Kd K H v t) (e : PySem.W.kitOne K (.type t) (.type n) = some b) (q : Q (.bl b) H) : rIsi K [v, .ty n] H Q :=
  ⟨v, .ty n, .type t, .type n, b, rfl, .ty n, h, e, q⟩
/-- isinstance(v, int), (v, bool), (v, list), (v, tuple), (v, str) of a value of a known sort -/
theorem kit_kd {K : PySem.W.Frag} {H : Hp} {v : V} {t : String} (h : Kd K H v t) :
    PySem.W.kitOne K (.type t) (.type "int") = some (t == "int" || t == "bool") ∧ PySem.W.kitOne K (.type t) (.type "bool") = some (t == "bool") ∧
    PySem.W.kitOne K (.type t) (.type "list") = some (t == "list") ∧ PySem.W.kitOne K (.type t) (.type "tuple") = some (t == "tuple") ∧ PySem.W.kitOne K (.type t) (.type "str") = some (t == "str") := by
  generalize e : Value.type t = u at h
  cases h with
  | base b =>
    cases b <;> first | (cases e; exact ⟨kit_ty (by decide +kernel), kit_ty (by decide +kernel), kit_ty (by decide +kernel), kit_ty (by decide +kernel), kit_ty (by decide +kernel)⟩) | cases e
  | _ => cases e; exact ⟨kit_ty (by decide +kernel), kit_ty (by decide +kernel), kit_ty (by decide +kernel), kit_ty (by decide +kernel), kit_ty (by decide +kernel)⟩

/-! #### further facts of the top -/
def exOk (ex : List (PySem.W.Frag → Bool)) (K : PySem.W.Frag) : Bool := ex.all fun f => f K
theorem exAll {ex : List (PySem.W.Frag → Bool)} {K : PySem.W.Frag} (i : Nat) {f : PySem.W.Frag → Bool} (c : exOk ex K = true) (h : ex[i]? = some f) : f K = true := List.all_eq_true.mp c f (List.mem_of_getElem? h)
def obsYG (n : Nat) (fa : List He.Fa) (fn : List He.DefD) (ex : List (PySem.W.Frag → Bool)) (g : Addr → Option Obj) : Bool × He.AlD := (exOk ex (He.frG g (He.asD g n)), He.obsD fa fn (He.frG g (He.asD g n)))
def hookY (n : Nat) (fa : List He.Fa) (fn : List He.DefD) (ex : List (PySem.W.Frag → Bool)) : PySem.W.Hook where
  α := Bool × He.AlD
  obs := fun s => obsYG n fa fn ex s.heap.get?
  val := fun _ => (true, He.valD fn)
  says := fun _ h => ∃ K : PySem.W.Frag, K.In h ∧ He.SaysD fa fn K ∧ exOk ex K = true
  of := fun _ _ e => ⟨_, He.frG_in, congrArg Prod.snd e, congrArg Prod.fst e⟩
  keeps := fun _ _ _ ⟨K, hK, c⟩ k => ⟨K, PySem.W.Frag.In.keeps hK k, c⟩
theorem obsYG_eq {n : Nat} {fa : List He.Fa} {fn : List He.DefD} {ex : List (PySem.W.Frag → Bool)} {g : Addr → Option Obj} {s : Shared} (h : ∀ a, g a = s.heap.get? a) : obsYG n fa fn ex g = (hookY n fa fn ex).obs s := by
  have e : g = s.heap.get? := funext h
  rw [e]; rfl
/-- a class without an __init__ of its own -/
structure MkB (K : PySem.W.Frag) (C : Addr) : Prop where
  makes : PySem.W.makesIn K C = true
  init : PySem.W.findIn K (.ref C) "__init__" = some (some (.builtin "object.__init__"))
  kp : PySem.W.keepIn K (.ref C) = true
  top : PySem.W.mroIn K C (.type "object") = some true
def mkB (K : PySem.W.Frag) (C : Addr) : Bool := PySem.W.makesIn K C && (He.eqO (PySem.W.findIn K (.ref C) "__init__") (some (some (.builtin "object.__init__"))) && (PySem.W.keepIn K (.ref C) && decide (PySem.W.mroIn K C (.type "object") = some true)))
theorem mkB_ok {K : PySem.W.Frag} {C : Addr} (h : mkB K C = true) : MkB K C := by
  obtain ⟨h1, h⟩ := He.ba h
  obtain ⟨h2, h⟩ := He.ba h
  obtain ⟨h3, h4⟩ := He.ba h
  exact ⟨h1, He.eqO_ok h2, h3, of_decide_eq_true h4⟩
/-- what isinstance asks of an own class -/
structure IsC (K : PySem.W.Frag) (C : Addr) : Prop where
  cls : PySem.W.findIn K (.ref C) "__class__" = some (some (.builtin "object.__class__"))
  spe : PySem.W.specialIn K (.builtin "object.__class__") "__get__" = some (some (.builtin "getset_descriptor.__get__"))
  tak : PySem.W.takesIn K (.builtin "object.__class__") = some true
  mro : PySem.W.mroIn K C (.type "object") = some true
def isCB (K : PySem.W.Frag) (C : Addr) : Bool := He.eqO (PySem.W.findIn K (.ref C) "__class__") (some (some (.builtin "object.__class__"))) && (He.eqO (PySem.W.specialIn K (.builtin "object.__class__") "__get__") (some (some (.builtin "getset_descriptor.__get__"))) &&
  (decide (PySem.W.takesIn K (.builtin "object.__class__") = some true) && decide (PySem.W.mroIn K C (.type "object") = some true)))
theorem isCB_ok {K : PySem.W.Frag} {C : Addr} (h : isCB K C = true) : IsC K C := by
  obtain ⟨h1, h⟩ := He.ba h
  obtain ⟨h2, h⟩ := He.ba h
  obtain ⟨h3, h4⟩ := He.ba h
  exact ⟨He.eqO_ok h1, He.eqO_ok h2, of_decide_eq_true h3, of_decide_eq_true h4⟩
/-- C(), no __init__: a new instance without attributes -/
def tMkO (C : Addr) : TE := fun _ H Q => ∀ x dx, H x = none → H dx = none → dx ≠ x → Q (.ref x) (upd (upd H dx (.own x)) x (.ins C dx []))
theorem pe_mkO {X : Cx} {x : Str} {C : Addr} {p pos : Pos} (M : MkB X.K C) (hg : Gl X x) (hm : X.mg x = some (.ref C)) (hdb : (x == ("__debug__" : Str)) = false := by decide) : PE X (.Call (.Name x p) [] [] pos) (tMkO C) := by
  refine ⟨fun pins s σ H Q I h => ?_⟩
  refine wpAny_Call_Name_kw (ld_glob I hg hm ?_ hdb)
  refine PySem.W.callWith_K0 I.kIn M.kp ?_
  have hq := h (s.heap.objs.size + 1) s.heap.objs.size (I.hok.fresh (Nat.le_succ _)) (I.hok.fresh (Nat.le_refl _)) (Nat.ne_of_lt (Nat.lt_succ_self _))
  have I2 := Inv.made (C := C) I
  refine wpAny_call (make_map0 I.kIn M.makes M.init (fun self => PySem.W.Looks.of_pure (PySem.W.oi_bind self)) ?_)
  have hL : PySem.W.Looks (model X.prog X.w) ((s.heap.push PySem.W.emptyDict).push (PySem.W.instObj C s.heap.objs.size)) (isInstance (.ref (s.heap.objs.size + 1)) (.type "object")) true := by
    have e2 : ((s.heap.push PySem.W.emptyDict).push (PySem.W.instObj C s.heap.objs.size)).get? (s.heap.objs.size + 1) = some (PySem.W.instObj C s.heap.objs.size) := by
      have := Heap.get?_push_size (s.heap.push PySem.W.emptyDict) (o := PySem.W.instObj C s.heap.objs.size) rfl
      rwa [Heap.size_push] at this
    have t1 : PySem.W.Looks (model X.prog X.w) ((s.heap.push PySem.W.emptyDict).push (PySem.W.instObj C s.heap.objs.size)) (typeOf (.ref (s.heap.objs.size + 1))) (.ref C) := (PySem.W.Looks.ld e2).andThen .now
    exact t1.andThen (PySem.W.looks_mroIn I2.kIn M.top)
  refine codeAny_call_builtin PySem.W.oi_plain PySem.W.entry_oi (@PySem.W.check_slot (model X.prog X.w) _ _ _ "object.__init__" "object" "__init__" _ [] [] _ PySem.W.oi_kind PySem.W.oi_split hL (PySem.W.oi_args _) ?_)
  rw [PySem.W.oi_run]
  exact wpAny_pure (And.intro rfl ⟨V.ref (s.heap.objs.size + 1), _, I2, rfl, hq⟩)
end Song

/-! ### Pl1: plain lists: greatest ones, songs in turn (no program in sight) -/
namespace Song
def maxL : List Int → Int
  | [] => 0
  | n :: r => r.foldl max n
theorem foldl_max_le : ∀ (r : List Int) (n m : Int), n ≤ m → (∀ y ∈ r, y ≤ m) → r.foldl max n ≤ m
  | [], _, _, h, _ => h
  | y :: r, n, m, h, hr => foldl_max_le r (max n y) m (by have := hr y (by simp); omega) fun z hz => hr z (by simp [hz])
theorem le_foldl_max : ∀ (r : List Int) (n : Int), n ≤ r.foldl max n ∧ ∀ y ∈ r, y ≤ r.foldl max n
  | [], n => ⟨Int.le_refl _, fun y h => by cases h⟩
  | y :: r, n => by
    obtain ⟨h1, h2⟩ := le_foldl_max r (max n y)
    have e : (y :: r).foldl max n = r.foldl max (max n y) := rfl
    rw [e]
    refine ⟨by omega, fun z hz => ?_⟩
    rcases List.mem_cons.mp hz with q | q
    · omega
    · exact h2 z q
theorem foldl_max_mem : ∀ (r : List Int) (n : Int), r.foldl max n ∈ n :: r
  | [], n => by simp
  | y :: r, n => by
    have h := foldl_max_mem r (max n y)
    have e : (y :: r).foldl max n = r.foldl max (max n y) := rfl
    rw [e]
    rcases List.mem_cons.mp h with q | q
    · rw [q]
      by_cases c : n ≤ y
      · rw [Int.max_eq_right c]; simp
      · rw [Int.max_eq_left (by omega)]; simp
    · simp [q]
theorem maxL_ge {ns : List Int} {y : Int} (h : y ∈ ns) : y ≤ maxL ns := by
  cases ns with
  | nil => cases h
  | cons n r =>
    obtain ⟨h1, h2⟩ := le_foldl_max r n
    rcases List.mem_cons.mp h with q | q
    · rw [q]; exact h1
    · exact h2 y q
theorem maxL_mem {ns : List Int} (h : ns ≠ []) : maxL ns ∈ ns := by
  cases ns with
  | nil => exact absurd rfl h
  | cons n r => exact foldl_max_mem r n
theorem maxL_eq {ns : List Int} {m : Int} (h : m ∈ ns) (hm : ∀ y ∈ ns, y ≤ m) : m = maxL ns := by
  have h1 := maxL_ge h
  have h2 := hm _ (maxL_mem (fun e => by rw [e] at h; cases h))
  omega
/-- the least round that a singer's next song can have -/
def floorOf (last : List Int) (going s : Int) : Int := max going (last.getD s.toNat 0 + 1)
def roundFor (last : List Int) (going : Int) (ss : List Int) : Int := maxL (ss.map (floorOf last going))
/-- the law's own way to say it -/
theorem roundFor_law {last : List Int} {going : Int} {ss : List Int} (h : ss ≠ []) : maxL (going :: ss.map fun s => last.getD s.toNat 0 + 1) = roundFor last going ss := by
  have h1 : ∀ s ∈ ss, floorOf last going s ≤ roundFor last going ss := fun s hs => maxL_ge (List.mem_map.mpr ⟨s, hs, rfl⟩)
  have h2 : going ≤ maxL (going :: ss.map fun s => last.getD s.toNat 0 + 1) := maxL_ge (by simp)
  have h3 : ∀ s ∈ ss, last.getD s.toNat 0 + 1 ≤ maxL (going :: ss.map fun s => last.getD s.toNat 0 + 1) := fun s hs => maxL_ge (List.mem_cons_of_mem _ (List.mem_map.mpr ⟨s, hs, rfl⟩))
  have h4 := maxL_mem (ns := going :: ss.map fun s => last.getD s.toNat 0 + 1) (by simp)
  have h5 : roundFor last going ss ∈ ss.map (floorOf last going) := maxL_mem (by simpa using h)
  obtain ⟨s, hs, e⟩ := List.mem_map.mp h5
  obtain ⟨s0, hs0⟩ : ∃ s0, s0 ∈ ss := by
    cases ss with
    | nil => exact absurd rfl h
    | cons a r => exact ⟨a, by simp⟩
  have f0 := h1 s0 hs0
  have f1 := h3 s hs
  unfold floorOf at e f0
  rcases List.mem_cons.mp h4 with q | q
  · omega
  · obtain ⟨s1, hs1, e1⟩ := List.mem_map.mp q
    have f2 := h1 s1 hs1
    unfold floorOf at f2
    omega
/-! #### pairs in order -/
def ltPr (a b : Int × Int) : Bool := decide (a.1 < b.1) || (decide (a.1 = b.1) && decide (a.2 < b.2))
theorem ltPr_iff {a b : Int × Int} : ltPr a b = true ↔ a.1 < b.1 ∨ (a.1 = b.1 ∧ a.2 < b.2) := by
  unfold ltPr
  simp
theorem ltPr_false {a b : Int × Int} : ltPr a b = false ↔ ¬ (a.1 < b.1 ∨ (a.1 = b.1 ∧ a.2 < b.2)) := by
  rw [← ltPr_iff]; simp
theorem ltPr_anti {a b : Int × Int} (h1 : ltPr a b = false) (h2 : ltPr b a = false) : a = b := by
  rw [ltPr_false] at h1 h2
  obtain ⟨a1, a2⟩ := a
  obtain ⟨b1, b2⟩ := b
  simp only at h1 h2
  have e1 : a1 = b1 := by omega
  have e2 : a2 = b2 := by omega
  rw [e1, e2]
def SortedP (l : List (Int × Int)) : Prop := l.Pairwise fun x y => ltPr y x = false
theorem sortedP_unique : ∀ {l m : List (Int × Int)}, l.Perm m → SortedP l → SortedP m → l = m
  | [], m, p, _, _ => (List.nil_perm.mp p).symm ▸ rfl
  | x :: l, [], p, _, _ => absurd p.length_eq (by simp)
  | x :: l, y :: m, p, h1, h2 => by
    obtain ⟨a1, a2⟩ := List.pairwise_cons.mp h1
    obtain ⟨b1, b2⟩ := List.pairwise_cons.mp h2
    have e : x = y := by
      have hx : x ∈ y :: m := p.subset (by simp)
      have hy : y ∈ x :: l := p.symm.subset (by simp)
      rcases List.mem_cons.mp hx with q | q
      · exact q
      rcases List.mem_cons.mp hy with q' | q'
      · exact q'.symm
      exact ltPr_anti (b1 x q) (a1 y q')
    subst e
    rw [sortedP_unique (List.perm_cons x |>.mp p) a2 b2]
def insP (x : Int × Int) : List (Int × Int) → List (Int × Int)
  | [] => [x]
  | y :: r => if ltPr y x then y :: insP x r else x :: y :: r
def sortP : List (Int × Int) → List (Int × Int)
  | [] => []
  | x :: r => insP x (sortP r)
theorem insP_perm (x : Int × Int) : ∀ l, (insP x l).Perm (x :: l)
  | [] => List.Perm.refl _
  | y :: r => by
    unfold insP
    split
    · exact ((insP_perm x r).cons y).trans (List.Perm.swap x y r)
    · exact List.Perm.refl _
theorem sortP_perm : ∀ l, (sortP l).Perm l
  | [] => List.Perm.refl _
  | x :: r => (insP_perm x (sortP r)).trans ((sortP_perm r).cons x)
theorem insP_sorted (x : Int × Int) : ∀ l, SortedP l → SortedP (insP x l)
  | [], _ => by
    unfold insP SortedP
    exact List.pairwise_singleton _ _
  | y :: r, h => by
    obtain ⟨a1, a2⟩ := List.pairwise_cons.mp h
    unfold insP
    split
    · rename_i c
      refine List.pairwise_cons.mpr ⟨fun z hz => ?_, insP_sorted x r a2⟩
      rcases List.mem_cons.mp ((insP_perm x r).subset hz) with q | q
      · rw [q, ltPr_false]
        rw [ltPr_iff] at c
        omega
      · exact a1 z q
    · rename_i c
      have c : ltPr y x = false := by simpa using c
      refine List.pairwise_cons.mpr ⟨fun z hz => ?_, h⟩
      rcases List.mem_cons.mp hz with q | q
      · rw [q]; exact c
      · have := a1 z q
        rw [ltPr_false] at this c ⊢
        omega
theorem sortP_sorted : ∀ l, SortedP (sortP l)
  | [] => List.Pairwise.nil
  | x :: r => insP_sorted x _ (sortP_sorted r)
theorem sortP_eq {l m : List (Int × Int)} (p : l.Perm m) (h : SortedP l) : l = sortP m := sortedP_unique (p.trans (sortP_perm m).symm) h (sortP_sorted m)
/-- the songs that wait, in turn -/
def inTurn (rounds waits : List Int) : List Int := (sortP (waits.map fun s => (rounds.getD s.toNat 0, s))).map (·.2)
theorem inTurn_perm (rounds waits : List Int) : (inTurn rounds waits).Perm waits := by
  unfold inTurn
  have h := (sortP_perm (waits.map fun s => (rounds.getD s.toNat 0, s))).map (·.2)
  rw [List.map_map] at h
  have e : waits.map ((fun x : Int × Int => x.2) ∘ fun s => (rounds.getD s.toNat 0, s)) = waits := by
    rw [show ((fun x : Int × Int => x.2) ∘ fun s => (rounds.getD s.toNat 0, s)) = id from rfl, List.map_id]
  rw [e] at h
  exact h
end Song

namespace Song
open PySem L2
def top (i : Nat) : Stmt := PySem.Challenge.pw_songturns_k08_whole_few.main.body.getD i (.Pass ⟨0, 0, 0, 0⟩)
def inC (st : Stmt) (i : Nat) : Stmt := match st with
  | .ClassDef _ _ _ b _ _ _ _ _ _ _ => b.getD i (.Pass ⟨0, 0, 0, 0⟩)
  | _ => .Pass ⟨0, 0, 0, 0⟩
abbrev s_least_between : Stmt := top 1
def d_least_between : He.DefD := ⟨("least_between", none), "least_between", "least_between", defArgs s_least_between, defBody s_least_between, defScope s_least_between, [], []⟩
abbrev s_is_whole : Stmt := top 11
def d_is_whole : He.DefD := ⟨("is_whole", none), "is_whole", "is_whole", defArgs s_is_whole, defBody s_is_whole, defScope s_is_whole, [], []⟩
abbrev s_are_numbers : Stmt := top 12
def d_are_numbers : He.DefD := ⟨("are_numbers", none), "are_numbers", "are_numbers", defArgs s_are_numbers, defBody s_are_numbers, defScope s_are_numbers, [], []⟩
abbrev s_are_singers : Stmt := top 13
def d_are_singers : He.DefD := ⟨("are_singers", none), "are_singers", "are_singers", defArgs s_are_singers, defBody s_are_singers, defScope s_are_singers, [], []⟩
abbrev s_check_groups : Stmt := top 14
def d_check_groups : He.DefD := ⟨("check_groups", none), "check_groups", "check_groups", defArgs s_check_groups, defBody s_check_groups, defScope s_check_groups, [], []⟩
abbrev s_least_gap : Stmt := top 16
def d_least_gap : He.DefD := ⟨("least_gap", none), "least_gap", "least_gap", defArgs s_least_gap, defBody s_least_gap, defScope s_least_gap, [], []⟩
abbrev s_all_orders : Stmt := top 17
def d_all_orders : He.DefD := ⟨("all_orders", none), "all_orders", "all_orders", defArgs s_all_orders, defBody s_all_orders, defScope s_all_orders, [], []⟩
abbrev s_widest_few : Stmt := top 18
def d_widest_few : He.DefD := ⟨("widest_few", none), "widest_few", "widest_few", defArgs s_widest_few, defBody s_widest_few, defScope s_widest_few, [], []⟩
abbrev s__law_cell_at : Stmt := top 20
def d__law_cell_at : He.DefD := ⟨("_law_cell_at", none), "_law_cell_at", "_law_cell_at", defArgs s__law_cell_at, defBody s__law_cell_at, defScope s__law_cell_at, [], []⟩
abbrev s__law_draw : Stmt := top 21
def d__law_draw : He.DefD := ⟨("_law_draw", none), "_law_draw", "_law_draw", defArgs s__law_draw, defBody s__law_draw, defScope s__law_draw, [], []⟩
abbrev s__law_value : Stmt := top 22
def d__law_value : He.DefD := ⟨("_law_value", none), "_law_value", "_law_value", defArgs s__law_value, defBody s__law_value, defScope s__law_value, [], []⟩
abbrev s__law_whole : Stmt := top 23
def d__law_whole : He.DefD := ⟨("_law_whole", none), "_law_whole", "_law_whole", defArgs s__law_whole, defBody s__law_whole, defScope s__law_whole, [], []⟩
abbrev s__law_few : Stmt := top 24
def d__law_few : He.DefD := ⟨("_law_few", none), "_law_few", "_law_few", defArgs s__law_few, defBody s__law_few, defScope s__law_few, [], []⟩
abbrev s__law_least : Stmt := top 25
def d__law_least : He.DefD := ⟨("_law_least", none), "_law_least", "_law_least", defArgs s__law_least, defBody s__law_least, defScope s__law_least, [], []⟩
abbrev s__law_orders : Stmt := top 26
def d__law_orders : He.DefD := ⟨("_law_orders", none), "_law_orders", "_law_orders", defArgs s__law_orders, defBody s__law_orders, defScope s__law_orders, [], []⟩
abbrev s_law : Stmt := top 27
def d_law : He.DefD := ⟨("law", none), "law", "law", defArgs s_law, defBody s_law, defScope s_law, [], []⟩
structure Tx (K : PySem.W.Frag) (mg : Str → Option Value) : Prop where
  g_least_between : mg "least_between" = some (.ref (He.ga K "least_between"))
  g_TurnError : mg "TurnError" = some (.ref (He.ga K "TurnError"))
  g_BadSongs : mg "BadSongs" = some (.ref (He.ga K "BadSongs"))
  g_BadOrder : mg "BadOrder" = some (.ref (He.ga K "BadOrder"))
  c_MOST_SINGERS : ∃ t, mg "MOST_SINGERS" = some (.int 6 t)
  c_MOST_OF_SONG : ∃ t, mg "MOST_OF_SONG" = some (.int 3 t)
  c_MOST_SONGS : ∃ t, mg "MOST_SONGS" = some (.int 24 t)
  c_FEW : ∃ t, mg "FEW" = some (.int 5 t)
  g_is_whole : mg "is_whole" = some (.ref (He.ga K "is_whole"))
  g_are_numbers : mg "are_numbers" = some (.ref (He.ga K "are_numbers"))
  g_are_singers : mg "are_singers" = some (.ref (He.ga K "are_singers"))
  g_check_groups : mg "check_groups" = some (.ref (He.ga K "check_groups"))
  g_least_gap : mg "least_gap" = some (.ref (He.ga K "least_gap"))
  g_all_orders : mg "all_orders" = some (.ref (He.ga K "all_orders"))
  g_widest_few : mg "widest_few" = some (.ref (He.ga K "widest_few"))
  g__law_cell_at : mg "_law_cell_at" = some (.ref (He.ga K "_law_cell_at"))
  g__law_draw : mg "_law_draw" = some (.ref (He.ga K "_law_draw"))
  g__law_value : mg "_law_value" = some (.ref (He.ga K "_law_value"))
  g__law_whole : mg "_law_whole" = some (.ref (He.ga K "_law_whole"))
  g__law_few : mg "_law_few" = some (.ref (He.ga K "_law_few"))
  g__law_least : mg "_law_least" = some (.ref (He.ga K "_law_least"))
  g__law_orders : mg "_law_orders" = some (.ref (He.ga K "_law_orders"))
  g_law : mg "law" = some (.ref (He.ga K "law"))
  len : mg "len" = none
  isinstance : mg "isinstance" = none
  all : mg "all" = none
  any : mg "any" = none
  range : mg "range" = none
  sorted : mg "sorted" = none
  set : mg "set" = none
  max : mg "max" = none
  min : mg "min" = none
  list : mg "list" = none
  enumerate : mg "enumerate" = none
  zip : mg "zip" = none
  int : mg "int" = none
  bool : mg "bool" = none
  tuple : mg "tuple" = none
  str : mg "str" = none
  dict : mg "dict" = none
  abs : mg "abs" = none
  d_least_between : ∃ fd, FnP K "least_between" "least_between" s_least_between (He.ga K "least_between") fd
  d_is_whole : ∃ fd, FnP K "is_whole" "is_whole" s_is_whole (He.ga K "is_whole") fd
  d_are_numbers : ∃ fd, FnP K "are_numbers" "are_numbers" s_are_numbers (He.ga K "are_numbers") fd
  d_are_singers : ∃ fd, FnP K "are_singers" "are_singers" s_are_singers (He.ga K "are_singers") fd
  d_check_groups : ∃ fd, FnP K "check_groups" "check_groups" s_check_groups (He.ga K "check_groups") fd
  d_least_gap : ∃ fd, FnP K "least_gap" "least_gap" s_least_gap (He.ga K "least_gap") fd
  d_all_orders : ∃ fd, FnP K "all_orders" "all_orders" s_all_orders (He.ga K "all_orders") fd
  d_widest_few : ∃ fd, FnP K "widest_few" "widest_few" s_widest_few (He.ga K "widest_few") fd
  d__law_cell_at : ∃ fd, FnP K "_law_cell_at" "_law_cell_at" s__law_cell_at (He.ga K "_law_cell_at") fd
  d__law_draw : ∃ fd, FnP K "_law_draw" "_law_draw" s__law_draw (He.ga K "_law_draw") fd
  d__law_value : ∃ fd, FnP K "_law_value" "_law_value" s__law_value (He.ga K "_law_value") fd
  d__law_whole : ∃ fd, FnP K "_law_whole" "_law_whole" s__law_whole (He.ga K "_law_whole") fd
  d__law_few : ∃ fd, FnP K "_law_few" "_law_few" s__law_few (He.ga K "_law_few") fd
  d__law_least : ∃ fd, FnP K "_law_least" "_law_least" s__law_least (He.ga K "_law_least") fd
  d__law_orders : ∃ fd, FnP K "_law_orders" "_law_orders" s__law_orders (He.ga K "_law_orders") fd
  d_law : ∃ fd, FnP K "law" "law" s_law (He.ga K "law") fd
end Song

/-! ### Ev1: small defs -/
namespace Song
open PySem L2
section
variable {P : Program} {w : World} {K : PySem.W.Frag} {mg : Str → Option Value} {base : Heap}
theorem sc_is_whole : FnScope ["thing"] ["thing"] (defScope s_is_whole) := ⟨rfl, rfl, rfl, by decide +kernel, rfl, by decide +kernel, by decide +kernel⟩
def sp_is_whole (K : PySem.W.Frag) : Sp := fun vs H Q _ => ∃ (v : V) (t : String), vs = [v] ∧ Kd K H v t ∧ Q (.bl (isInt v)) H
theorem fn_is_whole (T : Tx K mg) : Fn P w K mg base "is_whole" 1 (sp_is_whole K) := by
  obtain ⟨fd, F⟩ := T.d_is_whole
  refine ⟨_, fd, _, F.ok (CX := CX0) sc_is_whole (fun vs H Q E h => ?_) (fun cdv A outer s H vs Q E hr h => ?_), T.g_is_whole, F.kp, F.bindsN fun _ _ _ _ _ _ us hl => match us, hl with | [_], _ => rfl⟩
  · obtain ⟨v, t, rfl, _⟩ := h; rfl
  · obtain ⟨v, t, rfl, ht, q⟩ := h
    refine ⟨_, PSs.nox (pss_one (ps_ret (pe_and (pe_callB (show CallR _ _ (rIsi K) from call_isi) (by rfl) T.isinstance (by decide +kernel) (pa_cons (pv 0) (pa_cons (pe_gt (n := "int") T.int (by rfl) (by decide +kernel)) pa_nil))) (pe_one (pe_not (pe_callB (show CallR _ _ (rIsi K) from call_isi) (by rfl) T.isinstance (by decide +kernel) (pa_cons (pv 0) (pa_cons (pe_gt (n := "bool") T.bool (by rfl) (by decide +kernel)) pa_nil)))))))), ?_⟩
    obtain ⟨k1, k2, _⟩ := kit_kd ht
    refine ⟨_, rfl, _, _, _, _, _, rfl, .ty _, ht, k1, _, rfl, ?_⟩
    rw [kd_isInt ht] at q
    by_cases e : t = "int"
    · subst e
      exact iteT ⟨_, rfl, _, _, _, _, _, rfl, .ty _, ht, k2, _, rfl, q⟩
    · by_cases e2 : t = "bool"
      · subst e2
        exact iteT ⟨_, rfl, _, _, _, _, _, rfl, .ty _, ht, k2, _, rfl, q⟩
      · have f1 : (t == "int") = false := beq_eq_false_iff_ne.mpr e
        have f2 : (t == "bool") = false := beq_eq_false_iff_ne.mpr e2
        rw [f1] at q
        rw [f1, f2]
        exact iteF q
theorem sc_are_numbers : FnScope ["thing", "one"] ["thing"] (defScope s_are_numbers) := ⟨rfl, rfl, rfl, by decide +kernel, rfl, by decide +kernel, by decide +kernel⟩
def sp_are_numbers (K : PySem.W.Frag) : Sp := fun vs H Q _ => ∃ v : V, vs = [v] ∧
  ((∃ (a : Addr) (xs : List V), v = .ref a ∧ SqL K H a xs ∧ xs.length ≤ 1000 ∧ (∀ x ∈ xs, ∃ t, Kd K H x t) ∧ ∀ H', Same H H' → Q (.bl (xs.all isInt)) H') ∨ (∃ t, Kd K H v t ∧ t ≠ "list" ∧ Q (.bl false) H))
theorem kd_mono {K : PySem.W.Frag} {H H' : Hp} {v : V} {t : String} (s : Same H H') (h : Kd K H v t) : Kd K H' v t := by
  generalize e : Value.type t = u at h
  cases h with
  | base b =>
    cases b with
    | non => cases e; exact .base .non
    | bl x => cases e; exact .base (.bl x)
    | int x => cases e; exact .base (.int x)
    | str x => cases e; exact .base (.str x)
    | flt x => cases e; exact .base (.flt x)
    | lst h => cases e; exact .base (.lst (s _ _ h))
    | frz h => cases e; exact .base (.frz (s _ _ h))
    | tup h => cases e; exact .base (.tup (s _ _ h))
    | dK h => cases e; exact .base (.dK (s _ _ h))
    | dT h => cases e; exact .base (.dT (s _ _ h))
  | byt b => cases e; exact .byt b
  | set h => cases e; exact .set (s _ _ h)
  | kList h c => cases e; exact .kList h c
  | kTuple h c => cases e; exact .kTuple h c
  | kDict h c => cases e; exact .kDict h c
  | fTuple h => cases e; exact .fTuple (s _ _ h)
  | fDict h => cases e; exact .fDict (s _ _ h)
theorem bls_all (xs : List V) (f : V → Bool) : xs.map (fun x => V.bl (f x)) = (xs.map f).map V.bl := by rw [List.map_map]; rfl
theorem all_id (xs : List V) (f : V → Bool) : (xs.map f).all id = xs.all f := by rw [List.all_map]; rfl
theorem fn_are_numbers (T : Tx K mg) : Fn P w K mg base "are_numbers" 2 (sp_are_numbers K) := by
  obtain ⟨fd, F⟩ := T.d_are_numbers
  refine ⟨_, fd, _, F.ok (CX := CX0) sc_are_numbers (fun vs H Q E h => ?_) (fun cdv A outer s H vs Q E hr h => ?_), T.g_are_numbers, F.kp, F.bindsN fun _ _ _ _ _ _ us hl => match us, hl with | [_], _ => rfl⟩
  · obtain ⟨v, rfl, _⟩ := h; rfl
  · obtain ⟨v, rfl, h⟩ := h
    refine ⟨_, PSs.nox (pss_one (ps_ret (pe_and (pe_callB (show CallR _ _ (rIsi K) from call_isi) (by rfl) T.isinstance (by decide +kernel) (pa_cons (pv 0) (pa_cons (pe_gt (n := "list") T.list (by rfl) (by decide +kernel)) pa_nil))) (pe_one (pe_callB (show CallR _ _ (rAll K) from cr_all (by rfl)) (by rfl) T.all (by decide +kernel) (pa_cons (pe_lc (own := [("one", 1)]) (g := (gName 1)) (tt := tYes) (by rfl) sc_are_numbers.nd (show PI _ _ _ (iList K _) from pi_list (pv 0)) (blkOk_by (by kernel_rfl)) (fun _ _ _ _ _ => (pg_name (i := 1) sc_are_numbers.nd rfl (by first | exact Or.inl rfl | exact Or.inr rfl))) (fun _ _ _ _ _ => pts_nil) (fun _ _ _ _ _ => (pe_fn (fn_is_whole T) (hr.mono (by decide)) (by rfl) (pa_cons (pv 1) pa_nil)))) pa_nil)))))), ?_⟩
    rcases h with ⟨a, xs, rfl, hs, hl, ht, q⟩ | ⟨t, ht, hn, q⟩
    · refine ⟨_, rfl, _, _, _, _, _, rfl, .ty _, kd_list hs, (kit_kd (kd_list hs)).2.2.1, _, rfl, iteT ?_⟩
      refine ⟨_, rfl, a, rfl, ⟨_, hs⟩, fun D nD => lc_map (fun x => .bl (isInt x)) hs nD hl ?_ ?_ gname_mono⟩
      · intro i x H1 hx s1 k hk
        refine ⟨rfl, _, rfl, ?_⟩
        obtain ⟨t, ht⟩ := ht x (List.mem_of_getElem? hx)
        exact ⟨x, t, rfl, kd_mono s1 ht, hk _ (Same.refl _)⟩
      · intro H1 s1 hD
        refine ⟨_, xs.map isInt, rfl, SqL.of (by rw [← bls_all]; exact hD), ?_⟩
        rw [all_id]
        exact q _ s1
    · refine ⟨_, rfl, _, _, _, _, _, rfl, .ty _, ht, (kit_kd ht).2.2.1, _, rfl, ?_⟩
      rw [show (t == "list") = false from beq_eq_false_iff_ne.mpr hn]
      exact iteF q
end
end Song

/-! ### Ev2: counts, singers, rounds, turns -/
namespace Song
open PySem L2
/-! #### plain functions -/
/-- rising, each below the next -/
def rising : List Int → Bool
  | [] => true
  | [_] => true
  | a :: b :: r => decide (a < b) && rising (b :: r)
def areSingers (ns : List Int) (many : Int) : Bool := decide (1 ≤ ns.length ∧ ns.length ≤ 3) && ns.all (fun n => decide (0 ≤ n ∧ n < many)) && rising ns
def zipLt (ns : List Int) : List Bool := (ns.zip (ns.drop 1)).map fun p => decide (p.1 < p.2)
theorem zipLt_all : ∀ ns : List Int, (zipLt ns).all id = rising ns
  | [] => rfl
  | [_] => rfl
  | a :: b :: r => by
    have ih := zipLt_all (b :: r)
    unfold zipLt at ih ⊢
    unfold rising
    simp only [List.drop_succ_cons, List.drop_zero, List.zip_cons_cons, List.map_cons, List.all_cons, id] at ih ⊢
    rw [ih]
/-- 0 <= x < many -/
def inR (many : Int) : V → Bool
  | .int n => decide (0 ≤ n) && decide (n < many)
  | _ => false
theorem inR_all (many : Int) (ns : List Int) : (ns.map V.int).all (inR many) = ns.all fun n => decide (0 ≤ n ∧ n < many) := by
  rw [List.all_map]
  congr 1
  funext n
  show (decide (0 ≤ n) && decide (n < many)) = _
  rw [Bool.decide_and]
theorem int_at {ns : List Int} {i : Nat} {x : V} (h : (ns.map V.int)[i]? = some x) : ∃ n, x = .int n ∧ ns[i]? = some n := by
  rw [List.getElem?_map] at h
  cases e : ns[i]? with
  | none => rw [e] at h; cases h
  | some n => rw [e] at h; exact ⟨n, (Option.some.inj h).symm, rfl⟩
theorem cut1 (ns : List Int) : cutV (ns.map V.int) (some 1) none = (ns.drop 1).map V.int := by
  unfold cutV
  cases ns with
  | nil => rfl
  | cons a r =>
    have e1 : HT.sIx ((a :: r).map V.int).length 0 (some 1) = 1 := by
      show HT.sIx _ 0 (some 1) = 1
      simp [HT.sIx]
    have e2 : HT.sIx ((a :: r).map V.int).length ((a :: r).map V.int).length none = ((a :: r).map V.int).length := rfl
    rw [e1, e2, List.take_of_length_le (by simp), ← List.map_drop]
theorem zip_vals (ns : List Int) : (List.range (min (ns.map V.int).length ((ns.drop 1).map V.int).length)).filterMap (fun i => ((ns.zip (ns.drop 1))[i]?).map fun p => V.bl (decide (p.1 < p.2))) = (zipLt ns).map V.bl := by
  have e : min (ns.map V.int).length ((ns.drop 1).map V.int).length = (ns.zip (ns.drop 1)).length := by simp
  rw [e, range_map]
  unfold zipLt
  rw [List.map_map]
  rfl
section
variable {P : Program} {w : World} {K : PySem.W.Frag} {mg : Str → Option Value} {base : Heap}
theorem sc_are_singers : FnScope ["thing", "many", "one", "other"] ["thing", "many"] (defScope s_are_singers) := ⟨rfl, rfl, rfl, by decide +kernel, rfl, by decide +kernel, by decide +kernel⟩
def sp_are_singers (K : PySem.W.Frag) : Sp := fun vs H Q _ => ∃ (a : Addr) (ns : List Int) (many : Int), vs = [.ref a, .int many] ∧ SqL K H a (ns.map V.int) ∧ ns.length ≤ 1000 ∧ ∀ H', Same H H' → Q (.bl (areSingers ns many)) H'
theorem fn_are_singers (T : Tx K mg) : Fn P w K mg base "are_singers" 3 (sp_are_singers K) := by
  obtain ⟨fd, F⟩ := T.d_are_singers
  refine ⟨_, fd, _, F.ok (CX := CX0) sc_are_singers (fun vs H Q E h => ?_) (fun cdv A outer s H vs Q E hr h => ?_), T.g_are_singers, F.kp, F.bindsN fun _ _ _ _ _ _ us hl => match us, hl with | [_, _], _ => rfl⟩
  · obtain ⟨a, ns, many, rfl, _⟩ := h; rfl
  · obtain ⟨a, ns, many, rfl, hs, hl, q⟩ := h
    refine ⟨_, PSs.nox (pss_cons (ps_if (PW.pt (pw_or (pt_not (pt_val (pe_fn (fn_are_numbers T) (hr.mono (by decide)) (by rfl) (pa_cons (pv 0) pa_nil)))) (pw_or1 (pt_not (pt_chain op_le op_le pe_int (pe_callB (show CallR _ _ (rLenQ K) from call_len_seq) (by rfl) T.len (by decide +kernel) (pa_cons (pv 0) pa_nil)) (pe_gi T.c_MOST_OF_SONG (by rfl))))))) (pss_one (ps_ret pe_bl)) pss_nil)
      (pss_cons (ps_if (pt_not (pt_val (pe_callB (show CallR _ _ (rAll K) from cr_all (by rfl)) (by rfl) T.all (by decide +kernel) (pa_cons (pe_lc (own := [("one", 2)]) (g := (gName 2)) (tt := tYes) (by rfl) sc_are_singers.nd (show PI _ _ _ (iList K _) from pi_list (pv 0)) (blkOk_by (by kernel_rfl)) (fun _ _ _ _ _ => (pg_name (i := 2) sc_are_singers.nd rfl (by first | exact Or.inl rfl | exact Or.inr rfl))) (fun _ _ _ _ _ => pts_nil) (fun _ _ _ _ _ => (pe_chain op_le op_lt pe_int (pv 2) (pv 1)))) pa_nil)))) (pss_one (ps_ret pe_bl)) pss_nil)
      (pss_one (ps_ret (pe_callB (show CallR _ _ (rAll K) from cr_all (by rfl)) (by rfl) T.all (by decide +kernel) (pa_cons (pe_lc (own := [("one", 2), ("other", 3)]) (g := (gTup K 2 (gCons (gName 2) (gCons (gName 3) gNil)))) (tt := tYes) (by rfl) sc_are_singers.nd (show PI _ _ _ (iZip K _) from pi_zip (by rfl) T.zip (pa_cons (pv 0) (pa_cons (pe_slice (show SlR _ (rSlL K) from sl_list) (pv 0) (po_some pe_int) po_none) pa_nil))) (blkOk_by (by kernel_rfl)) (fun _ _ _ _ _ => (show PG _ _ (gTup K _ _) from pg_tup rfl (pgs_cons (pg_name (i := 2) sc_are_singers.nd rfl (by first | exact Or.inl rfl | exact Or.inr rfl)) (pgs_cons (pg_name (i := 3) sc_are_singers.nd rfl (by first | exact Or.inl rfl | exact Or.inr rfl)) pgs_nil)))) (fun _ _ _ _ _ => pts_nil) (fun _ _ _ _ _ => (pe_cmpR op_lt (pv 2) (pv 3) (nomark _)))) pa_nil)))))), ?_⟩
    have hlV : (ns.map V.int).length ≤ 1000 := by rw [List.length_map]; exact hl
    have allI : (ns.map V.int).all isInt = true := by
      rw [List.all_map, List.all_eq_true]; intro x _; rfl
    refine ⟨_, rfl, _, rfl, .inl ⟨a, _, rfl, hs, hlV, fun x hx => ?_, fun H1 s1 => ?_⟩⟩
    · obtain ⟨i, _, rfl⟩ := List.mem_map.mp hx
      exact ⟨_, kd_int i⟩
    rw [allI]
    refine ⟨_, rfl, iteF ?_⟩
    refine ⟨_, rfl, a, _, rfl, .inl (s1.seq hs), _, _, rfl, rfl, _, rfl, ?_⟩
    rw [List.length_map]
    by_cases h1 : (1 : Int) ≤ (ns.length : Int)
    case neg =>
      have e0 : areSingers ns many = false := by
        unfold areSingers
        rw [decide_eq_false (by omega)]; rfl
      rw [decide_eq_false h1]
      refine iteF ⟨_, rfl, iteT ?_⟩
      rw [e0] at q
      exact q _ s1
    rw [decide_eq_true h1]
    refine iteT ⟨_, _, rfl, rfl, _, rfl, ?_⟩
    by_cases h3 : (ns.length : Int) ≤ 3
    case neg =>
      have e0 : areSingers ns many = false := by
        unfold areSingers
        rw [decide_eq_false (by omega)]; rfl
      rw [decide_eq_false h3]
      rw [e0] at q
      exact iteT (q _ s1)
    rw [decide_eq_true h3]
    refine iteF ?_
    refine ⟨_, rfl, a, rfl, ⟨_, s1.seq hs⟩, fun D nD => lc_map (fun x => .bl (inR many x)) (s1.seq hs) nD hlV ?_ ?_ gname_mono⟩
    · intro i x H2 hx s2 k hk
      obtain ⟨n, rfl, _⟩ := int_at hx
      refine ⟨rfl, _, rfl, _, _, rfl, rfl, _, rfl, ?_⟩
      have hk2 : k (.bl (decide (0 ≤ n) && decide (n < many))) H2 := hk H2 (Same.refl _)
      by_cases h0 : (0 : Int) ≤ n
      · rw [decide_eq_true h0] at hk2 ⊢
        exact iteT ⟨_, rfl, _, _, rfl, rfl, hk2⟩
      · rw [decide_eq_false h0] at hk2 ⊢
        exact iteF hk2
    intro H2 s2 hD
    refine ⟨_, (ns.map V.int).map (inR many), rfl, SqL.of (by rw [← bls_all]; exact hD), _, rfl, ?_⟩
    rw [all_id, inR_all]
    by_cases hA : (ns.all fun n => decide (0 ≤ n ∧ n < many)) = true
    case neg =>
      have e0 : areSingers ns many = false := by
        unfold areSingers
        rw [Bool.eq_false_iff.mpr hA, Bool.and_false]; rfl
      rw [Bool.eq_false_iff.mpr hA]
      rw [e0] at q
      exact iteT (q _ (s1.trans s2))
    rw [hA]
    refine iteF ?_
    have hs2 := (s1.trans s2).seq hs
    refine ⟨_, rfl, _, rfl, _, rfl, a, _, rfl, hs2, fun p np => ?_⟩
    refine to_new np fun H3 s3 hp => ?_
    rw [cut1] at hp
    refine ⟨a, p, _, _, rfl, s3.seq hs2, SqL.of hp, fun D nD => lc_pure (walk_zip rfl) sqL2_mono ⟨s3.seq hs2, SqL.of hp⟩ (fun i => ((ns.zip (ns.drop 1))[i]?).map fun p => V.bl (decide (p.1 < p.2))) nD (by simp; omega) ?_ ?_⟩
    · rintro i v H4 H5 hi s4 ⟨t, x, y, rfl, nt, rfl, hx, hy⟩ k kn hk _
      obtain ⟨n, rfl, hn⟩ := int_at hx
      obtain ⟨m, rfl, hm⟩ := int_at hy
      refine ⟨t, _, rfl, SqT.of upd_same, rfl, _, _, rfl, _, _, rfl, rfl, rfl, yes_of ?_⟩
      refine ⟨_, rfl, _, rfl, _, _, rfl, rfl, ?_⟩
      refine hk _ _ ?_ (Same.new nt)
      have e : (ns.zip (ns.drop 1))[i]? = some (n, m) := by rw [List.getElem?_zip_eq_some]; exact ⟨hn, hm⟩
      rw [e]
      rfl
    · intro H4 s4 hD4
      rw [zip_vals] at hD4
      refine ⟨_, zipLt ns, rfl, SqL.of hD4, ?_⟩
      rw [zipLt_all]
      have e : areSingers ns many = rising ns := by
        unfold areSingers
        rw [hA, decide_eq_true (by omega)]; rfl
      rw [← e]
      exact q _ (((s1.trans s2).trans s3).trans s4)
end
end Song

/-! ### Ut: small things used everywhere -/
namespace Song
open PySem L2
theorem at_int {ls : List Int} {s : Int} (h0 : 0 ≤ s) (h1 : s < ls.length) : atI (ls.map V.int) s = some (.int (ls.getD s.toNat 0)) := by
  obtain ⟨j, rfl⟩ := Int.eq_ofNat_of_zero_le h0
  have hj : j < ls.length := by omega
  refine atI_nat ?_
  rw [List.getElem?_map, List.getElem?_eq_getElem hj]
  simp [List.getD_eq_getElem?_getD, List.getElem?_eq_getElem hj]
theorem max_ite (i j : Int) : (if j > i then j else i) = max i j := by
  split <;> omega
/-- all of ss are places of a list so long -/
def InB (n : Nat) (ss : List Int) : Prop := ∀ s ∈ ss, 0 ≤ s ∧ s < (n : Int)
theorem off_put {S : List Addr} {H : Hp} {a : Addr} {o : HO} (h : a ∈ S) : off S (upd H a o) = off S H := by
  funext b
  by_cases q : b ∈ S
  · rw [off_in q, off_in q]
  · rw [off_out q, off_out q, upd_ne (fun z => q (by rw [z]; exact h))]
theorem new_out {S : List Addr} {H : Hp} {t : Addr} (dom : ∀ a ∈ S, ∃ o, H a = some o) (nt : H t = none) : t ∉ S := fun q => by
  obtain ⟨o, h⟩ := dom t q
  rw [nt] at h; cases h
theorem dom_put {S : List Addr} {H : Hp} {b : Addr} {o : HO} (dom : ∀ a ∈ S, ∃ o, H a = some o) : ∀ a ∈ S, ∃ o', upd H b o a = some o' := fun a ha => by
  by_cases e : a = b
  · rw [e]; exact ⟨o, upd_same⟩
  · rw [upd_ne e]; exact dom a ha
theorem dom_same {S : List Addr} {H H' : Hp} (s : Same H H') (dom : ∀ a ∈ S, ∃ o, H a = some o) : ∀ a ∈ S, ∃ o', H' a = some o' := fun a ha => by
  obtain ⟨o, h⟩ := dom a ha
  exact ⟨o, s _ _ h⟩
theorem rep_flat (n : Nat) : (List.replicate n [V.int 0]).flatten = List.replicate n (V.int 0) := by
  induction n with
  | zero => rfl
  | succ n ih => rw [List.replicate_succ, List.flatten_cons, ih]; rfl
theorem rep_ints (n : Nat) : (List.replicate n (V.int 0)) = (List.replicate n (0 : Int)).map V.int := by rw [List.map_replicate]
theorem Fra.le {S S' : List Addr} {H H' : Hp} (f : Fra S' H H') (sub : ∀ a ∈ S', a ∈ S) : Same (Song.off S H) H' := fun b o h => by
  obtain ⟨q, h⟩ := off_some h
  exact f b o (fun z => q (sub b z)) h
theorem ixN_of {n : Nat} {s : Int} (h0 : 0 ≤ s) (h1 : s < (n : Int)) : ixN n s = some s.toNat := by
  unfold ixN
  rw [if_pos h0, if_pos h1]
theorem areS_len {ss : List Int} {m : Int} (h : areSingers ss m = true) : 1 ≤ ss.length ∧ ss.length ≤ 3 ∧ (∀ s ∈ ss, 0 ≤ s ∧ s < m) ∧ rising ss = true := by
  unfold areSingers at h
  simp only [Bool.and_eq_true, decide_eq_true_eq, List.all_eq_true] at h
  exact ⟨h.1.1.1, h.1.1.2, h.1.2, h.2⟩
theorem snoc_ints (ns : List Int) (n : Int) : (ns ++ [n]).map V.int = ns.map V.int ++ [V.int n] := by rw [List.map_append]; rfl
theorem lt_line {n : Nat} (h : n ≤ 1000) : n < sizeLine := Nat.lt_of_le_of_lt h (by decide)
theorem nodup_len : ∀ {n : Nat} {ws : List Int}, InB n ws → ws.Nodup → ws.length ≤ n
  | 0, [], _, _ => Nat.le_refl _
  | 0, w :: r, h, _ => by have := h w (by simp); omega
  | n + 1, ws, h, nd => by
    have h1 : InB n (ws.erase (n : Int)) := fun s hs => by
      have h2 := h s (List.mem_of_mem_erase hs)
      have h3 : s ≠ (n : Int) := fun e => by
        rw [e] at hs
        exact (nd.not_mem_erase) hs
      omega
    have h2 := nodup_len h1 (nd.erase _)
    have h3 := List.length_erase (a := (n : Int)) (l := ws)
    split at h3 <;> omega
def optV : Option Int → V
  | none => .non
  | some n => .int n
def optD : Option Int → PyData
  | none => .none
  | some n => .int n
def Shp (k : Nat) (d : PyData) : Prop := d.canLay0 = true ∧ d.depth ≤ k
theorem shp_all {k : Nat} : ∀ {xs : List PyData}, (∀ x ∈ xs, Shp k x) → PyData.canLayAll0 xs = true ∧ PyData.depthAll xs ≤ k
  | [], _ => ⟨rfl, Nat.zero_le _⟩
  | x :: xs, h => by
    obtain ⟨h1, h2⟩ := h x (by simp)
    obtain ⟨h3, h4⟩ := shp_all (xs := xs) fun y hy => h y (by simp [hy])
    refine ⟨by rw [PyData.canLayAll0, h1, h3]; rfl, ?_⟩
    rw [PyData.depthAll]
    exact Nat.max_le.mpr ⟨h2, h4⟩
theorem shp_list {k : Nat} {xs : List PyData} (h : ∀ x ∈ xs, Shp k x) : Shp (k + 1) (.list xs) := by
  obtain ⟨h1, h2⟩ := shp_all h
  refine ⟨by rw [PyData.canLay0]; exact h1, ?_⟩
  rw [PyData.depth]
  omega
theorem shp_tuple {k : Nat} {xs : List PyData} (h : ∀ x ∈ xs, Shp k x) : Shp (k + 1) (.tuple xs) := by
  obtain ⟨h1, h2⟩ := shp_all h
  refine ⟨by rw [PyData.canLay0]; exact h1, ?_⟩
  rw [PyData.depth]
  omega
theorem shp_int {k : Nat} (i : Int) : Shp (k + 1) (.int i) := ⟨by rw [PyData.canLay0], by rw [PyData.depth] <;> omega⟩
theorem Shp.mono {k m : Nat} {d : PyData} (h : Shp k d) (hk : k ≤ m) : Shp m d := ⟨h.1, Nat.le_trans h.2 hk⟩
theorem Shp.ok {k : Nat} {d : PyData} (h : Shp k d) (hk : k ≤ 64 := by decide) : SeqAt.shaped d = true := by
  unfold SeqAt.shaped
  rw [h.1, decide_eq_true (Nat.le_trans h.2 hk)]; rfl
theorem shp_ints (ns : List Int) : Shp 2 (.list (ns.map PyData.int)) := shp_list fun x hx => by
  obtain ⟨i, _, rfl⟩ := List.mem_map.mp hx
  exact shp_int i
theorem shp_optD (o : Option Int) : Shp 1 (optD o) := by
  cases o with
  | none => exact ⟨by unfold optD; rw [PyData.canLay0], by unfold optD; rw [PyData.depth] <;> omega⟩
  | some n => exact shp_int n
theorem shp_word {x : Str} (h : PyData.canLay0 (.str x) = true) {k : Nat} : Shp (k + 1) (.str x) := ⟨h, by rw [PyData.depth] <;> omega⟩
theorem eqv_self {k : Nat} {d : PyData} (h : Shp k d) : PyData.eqv d d = true := PySem.SeqAt.eqv_refl d h.1
theorem eqv_nil (ns : List Int) : PyData.eqv (.list (ns.map PyData.int)) (.list []) = ns.isEmpty := by
  cases ns with
  | nil => rfl
  | cons a r => rfl
theorem shp_nil : Shp 1 (.list []) := shp_list (k := 0) fun x hx => by cases hx
theorem inV_ints (n : Int) (ns : List Int) : inV (.int n) (ns.map V.int) = decide (n ∈ ns) := by
  unfold inV
  rw [List.any_map]
  induction ns with
  | nil => rfl
  | cons a r ih =>
    rw [List.any_cons, ih]
    show ((a == n) || _) = _
    by_cases e : a = n
    · subst e; simp
    · have : n ≠ a := fun z => e z.symm
      simp [e, this]
theorem flat_ints (ns : List Int) : (ns.map V.int).all flatV = true := by
  rw [List.all_map, List.all_eq_true]; intro x _; rfl
theorem dp_opt {K : PySem.W.Frag} {H : Hp} (o : Option Int) : Dp K H (optV o) (optD o) := by
  cases o with
  | none => exact .non
  | some n => exact .int n
theorem cut63 {ns : List Int} (h : ns.length ≤ 63) : cutV (ns.map V.int) none (some 63) = ns.map V.int := by
  unfold cutV
  have e1 : HT.sIx (ns.map V.int).length 0 none = 0 := rfl
  have e2 : HT.sIx (ns.map V.int).length (ns.map V.int).length (some 63) = (ns.map V.int).length := by
    simp only [HT.sIx]
    rw [if_neg (by decide), List.length_map]
    have : (63 : Int).toNat = 63 := rfl
    omega
  rw [e1, e2]
  exact List.take_of_length_le (by simp)
/-- the making of an evening, seen from ahead of it -/
theorem made_same {H H' : Hp} {x dx : Addr} {o o' : HO} (nx : H x = none) (ndx : H dx = none) (f : Fra [x] (upd (upd H dx o) x o') H') : Same H H' := fun b o2 e => by
  have n1 : b ≠ x := ne_of_none e nx
  have n2 : b ≠ dx := ne_of_none e ndx
  refine f.one n1 ?_
  rw [upd_ne n1, upd_ne n2]
  exact e
theorem made_free {H : Hp} {x dx a : Addr} {o o' : HO} (h : upd (upd H dx o) x o' a = none) : H a = none := by
  have n1 : a ≠ x := fun e => by rw [e, upd_same] at h; cases h
  rw [upd_ne n1] at h
  have n2 : a ≠ dx := fun e => by rw [e, upd_same] at h; cases h
  rw [upd_ne n2] at h
  exact h
theorem sqT_mono {K : PySem.W.Frag} {a : Addr} {xs : List V} (H H' : Hp) (s : Same H H') (h : SqT K H a xs) : SqT K H' a xs := Same.sqT s h
/-- over a tuple -/
theorem lc_mapT {g : TG} {te : TE} {vs : List Nat} {σ : L2.St} {H1 : Hp} {D : Addr} {Qd : Hp → Prop} {K : PySem.W.Frag} {a : Addr} {xs : List V} (f : V → V) (hSq : SqT K H1 a xs) (nD : H1 D = none) (hlen : xs.length ≤ 1000)
    (hs : ∀ (i : Nat) x H, xs[i]? = some x → Same H1 H → ∀ k : V → Hp → Prop, (∀ H', Same H H' → k (f x) H') → g x (wipe σ vs) H fun σ2 H2 => wipe σ2 vs = wipe σ vs ∧ te σ2 H2 k)
    (hd : ∀ H, Same H1 H → H D = some (.lst (xs.map f)) → Qd H)
    (hg : ∀ x σ H Q Q', (∀ σ2 H2, Q σ2 H2 → Q' σ2 H2) → g x σ H Q → g x σ H Q') : LcAsks (Itt K a) g tYes te vs σ H1 D Qd := by
  refine lc_pure walk_tup sqT_mono hSq (fun i => xs[i]?.map f) nD hlen (fun i x H H' hi s hY k kn hk _ => ?_) (fun H s hD => hd H s (by rw [← range_map]; exact hD))
  obtain ⟨rfl, hx⟩ := hY
  refine hg _ _ _ _ _ (fun σ2 H2 h => ?_) (hs i x H' hx s k fun H2 s2 => hk _ H2 (by rw [hx]; rfl) s2)
  exact ⟨h.1, yes_of h.2⟩
theorem eqv_ints (ns : List Int) : PyData.eqv (.list (ns.map PyData.int)) (.list (ns.map PyData.int)) = true := eqv_self (shp_ints ns)
theorem eqvI_all : ∀ xs ys : List Int, PyData.eqvAll (xs.map PyData.int) (ys.map PyData.int) = decide (xs = ys)
  | [], [] => rfl
  | [], _ :: _ => rfl
  | _ :: _, [] => rfl
  | a :: r, b :: t => by
    show ((a == b) && PyData.eqvAll (r.map PyData.int) (t.map PyData.int)) = _
    rw [eqvI_all r t]
    by_cases h : a = b
    · subst h
      rw [beq_self_eq_true, Bool.true_and]
      exact decide_eq_decide.mpr ⟨fun e => by rw [e], fun e => by injection e⟩
    · rw [beq_eq_false_iff_ne.mpr h, Bool.false_and, decide_eq_false (fun e => h (by injection e))]
theorem eqv_intsD (xs ys : List Int) : PyData.eqv (.list (xs.map PyData.int)) (.list (ys.map PyData.int)) = decide (xs = ys) := eqvI_all xs ys
theorem rising_of : ∀ {ns : List Int}, ns.Pairwise (· < ·) → rising ns = true
  | [], _ => rfl
  | [_], _ => rfl
  | a :: b :: r, h => by
    obtain ⟨h1, h2⟩ := List.pairwise_cons.mp h
    unfold rising
    rw [decide_eq_true (h1 b (by simp)), rising_of h2]; rfl
theorem areS_of {ns : List Int} {m : Int} (h1 : 1 ≤ ns.length) (h3 : ns.length ≤ 3) (hi : ∀ s ∈ ns, 0 ≤ s ∧ s < m) (hr : rising ns = true) : areSingers ns m = true := by
  unfold areSingers
  rw [decide_eq_true (And.intro h1 h3), hr, List.all_eq_true.mpr fun s hs => decide_eq_true (hi s hs)]; rfl
theorem areS_take {ns : List Int} {m : Int} (h : areSingers ns m = true) : areSingers (ns.take 1) m = true := by
  obtain ⟨h1, h3, hi, hr⟩ := areS_len h
  cases ns with
  | nil => simp at h1
  | cons a r => exact areS_of (by simp) (by simp) (fun s hs => hi s (by simp at hs; simp [hs])) rfl
theorem cut_to1 (ns : List Int) : cutV (ns.map V.int) none (some 1) = (ns.take 1).map V.int := by
  unfold cutV
  cases ns with
  | nil => rfl
  | cons a r =>
    have e1 : HT.sIx ((a :: r).map V.int).length 0 none = 0 := rfl
    have e2 : HT.sIx ((a :: r).map V.int).length ((a :: r).map V.int).length (some 1) = 1 := by simp [HT.sIx]
    rw [e1, e2]; rfl
theorem cut_ints (ns : List Int) {b e : Int} (hb : 0 ≤ b) (he : 0 ≤ e) : ∃ ms : List Int, cutV (ns.map V.int) (some b) (some e) = ms.map V.int ∧ ms.length ≤ (e - b).toNat ∧ ∀ z ∈ ms, z ∈ ns := by
  unfold cutV
  refine ⟨(ns.drop (HT.sIx (ns.map V.int).length 0 (some b))).take (HT.sIx (ns.map V.int).length (ns.map V.int).length (some e) - HT.sIx (ns.map V.int).length 0 (some b)), ?_, ?_, ?_⟩
  · rw [← List.map_drop, ← List.map_take]
  · rw [List.length_take, List.length_drop]
    have e1 : ∀ (n d : Nat) (x : Int), 0 ≤ x → HT.sIx n d (some x) = min x.toNat n := fun n d x hx => by
      simp only [HT.sIx]
      rw [if_neg (by omega)]
    rw [e1 _ _ _ hb, e1 _ _ _ he, List.length_map]
    omega
  · intro z hz
    exact List.mem_of_mem_drop (List.mem_of_mem_take hz)
theorem eqv_pair (a b c d : Int) : PyData.eqv (.tuple [.int a, .int b]) (.tuple [.int c, .int d]) = decide (a = c ∧ b = d) := by
  show ((a == c) && ((b == d) && true)) = _
  by_cases h1 : a = c <;> by_cases h2 : b = d <;> simp [h1, h2]
theorem eqv_opt (o o' : Option Int) : PyData.eqv (optD o) (optD o') = decide (o = o') := by
  cases o with
  | none =>
    cases o' with
    | none => rfl
    | some n => rfl
  | some m =>
    cases o' with
    | none => rfl
    | some n =>
      show (m == n) = _
      by_cases h : m = n <;> simp [h]
theorem shp_pair (a b : Int) : Shp 2 (.tuple [.int a, .int b]) := shp_tuple fun x hx => by
  simp only [List.mem_cons, List.not_mem_nil, or_false] at hx
  rcases hx with rfl | rfl <;> exact shp_int _
theorem cut_head (vs : List V) (n : Nat) : cutV vs none (some (n : Int)) = vs.take n := by
  unfold cutV
  have e1 : HT.sIx vs.length 0 none = 0 := rfl
  have e2 : HT.sIx vs.length vs.length (some (n : Int)) = min n vs.length := by
    simp only [HT.sIx]
    rw [if_neg (by omega)]
    rfl
  rw [e1, e2, List.drop_zero]
  by_cases h : n ≤ vs.length
  · rw [Nat.min_eq_left h]; rfl
  · rw [Nat.min_eq_right (by omega), List.take_of_length_le (by omega), List.take_of_length_le (by omega)]
theorem cut_tail (vs : List V) (n : Nat) : cutV vs (some (n : Int)) none = vs.drop n := by
  unfold cutV
  have e1 : HT.sIx vs.length 0 (some (n : Int)) = min n vs.length := by
    simp only [HT.sIx]
    rw [if_neg (by omega)]
    rfl
  have e2 : HT.sIx vs.length vs.length none = vs.length := rfl
  rw [e1, e2]
  by_cases h : n ≤ vs.length
  · rw [Nat.min_eq_left h]
    exact List.take_of_length_le (by rw [List.length_drop]; omega)
  · rw [Nat.min_eq_right (by omega), List.drop_of_length_le (show vs.length ≤ n by omega), List.drop_length]
    exact List.take_nil
@[elab_as_elim] theorem to_made {H : Hp} {x dx : Addr} {o o' : HO} {Q : Hp → Prop} (nx : H x = none) (ndx : H dx = none) (h : ∀ H', Same H H' → H' x = some o' → Q H') : Q (upd (upd H dx o) x o') :=
  h _ (made_same (o := o) (o' := o') nx ndx (Fra.refl _ _)) upd_same
theorem pw_of : ∀ {ns : List Int}, rising ns = true → ns.Pairwise (· < ·)
  | [], _ => .nil
  | [_], _ => List.pairwise_singleton _ _
  | a :: b :: r, h => by
    unfold rising at h
    rw [Bool.and_eq_true] at h
    have h1 := of_decide_eq_true h.1
    have ih := pw_of h.2
    refine List.pairwise_cons.mpr ⟨fun x hx => ?_, ih⟩
    rcases List.mem_cons.mp hx with e | e
    · rw [e]; exact h1
    · exact Int.lt_trans h1 ((List.pairwise_cons.mp ih).1 x e)
/-- two rising lists of the same members are one -/
theorem pw_ext : ∀ {xs ys : List Int}, xs.Pairwise (· < ·) → ys.Pairwise (· < ·) → (∀ z, z ∈ xs ↔ z ∈ ys) → xs = ys
  | [], [], _, _, _ => rfl
  | [], b :: _, _, _, h => by have := (h b).mpr (by simp); cases this
  | a :: _, [], _, _, h => by have := (h a).mp (by simp); cases this
  | a :: r, b :: t, h1, h2, h => by
    obtain ⟨p1, q1⟩ := List.pairwise_cons.mp h1
    obtain ⟨p2, q2⟩ := List.pairwise_cons.mp h2
    have e : a = b := by
      have m1 := (h a).mp (by simp)
      have m2 := (h b).mpr (by simp)
      rcases List.mem_cons.mp m1 with e | e
      · exact e
      · rcases List.mem_cons.mp m2 with e2 | e2
        · exact e2.symm
        · have := p1 b e2; have := p2 a e; omega
    subst e
    rw [pw_ext q1 q2 fun z => ⟨fun m => ?_, fun m => ?_⟩]
    · rcases List.mem_cons.mp ((h z).mp (by simp [m])) with e | e
      · have := p1 z m; omega
      · exact e
    · rcases List.mem_cons.mp ((h z).mpr (by simp [m])) with e | e
      · have := p2 z m; omega
      · exact e
theorem off_free {S : List Addr} {H H' : Hp} (s : Same H H') (n : ∀ a ∈ S, H a = none) : Same H (off S H') := fun b o e => by
  rw [off_out (fun z => by rw [n b z] at e; cases e)]
  exact s _ _ e
theorem dom_fra {S X : List Addr} {H H' : Hp} (f : Fra X H H') (dom : ∀ a ∈ S, ∃ o, H a = some o) (domX : ∀ a ∈ X, ∃ o, H' a = some o) : ∀ a ∈ S, ∃ o, H' a = some o := fun a ha => by
  by_cases e : a ∈ X
  · exact domX a e
  · obtain ⟨o, h⟩ := dom a ha
    exact ⟨o, f a o e h⟩
theorem foldl_take {α β : Type} (f : β → α → β) (b : β) : ∀ (xs : List α) (i : Nat) (x : α), xs[i]? = some x → (xs.take (i + 1)).foldl f b = f ((xs.take i).foldl f b) x := fun xs i x h => by
  obtain ⟨hi, e⟩ := List.getElem?_eq_some_iff.mp h
  rw [List.take_succ_eq_append_getElem hi, List.foldl_append, e]; rfl
end Song

/-! ### Lw1: a law's draws -/
namespace Song
open PySem L2
/-! #### sizes of numbers -/
def Bits (n : Nat) (c : Int) : Prop := c.natAbs < 2 ^ n
theorem Bits.of_int {n : Nat} {c : Int} (h : Builtin.Int.intBits c ≤ n) : Bits n c := by
  unfold Builtin.Int.intBits at h
  unfold Bits
  by_cases e : c = 0
  · subst e
    exact Nat.two_pow_pos n
  · rw [if_neg (by simpa using e)] at h
    exact (Nat.log2_lt (by omega)).mp (by omega)
theorem Bits.mono {n m : Nat} {c : Int} (h : Bits n c) (hm : n ≤ m) : Bits m c := Nat.lt_of_lt_of_le h (Nat.pow_le_pow_right (by decide) hm)
theorem Bits.small {c : Int} {n : Nat} (h : c.natAbs < 2 ^ 64) (hn : 64 ≤ n) : Bits n c := Bits.mono (n := 64) h hn
theorem Bits.add {n : Nat} {a b : Int} (ha : Bits n a) (hb : Bits n b) : Bits (n + 1) (a + b) := by
  unfold Bits at *
  rw [Nat.pow_succ]
  generalize 2 ^ n = m at *
  omega
theorem Bits.mulOk {n m : Nat} {a b : Int} (ha : Bits n a) (hb : Bits m b) (h : n + m ≤ 100000000) : IntMulOk a b := by
  have f : ∀ {x : Int} {k : Nat}, Bits k x → Builtin.Int.intBits x ≤ k := fun {x k} hx => by
    unfold Builtin.Int.intBits
    split
    · omega
    · rename_i e
      have : x.natAbs ≠ 0 := by
        have : x ≠ 0 := by simpa using e
        omega
      have := (Nat.log2_lt this).mpr hx
      omega
  have h1 := f ha
  have h2 := f hb
  unfold IntMulOk
  intro z
  rw [Bool.and_eq_true] at z
  have z3 := of_decide_eq_true (show decide ((((Builtin.Int.intBits a + Builtin.Int.intBits b : Nat) : Int)) > (bitsLine : Int)) = true from z.2)
  have e : bitsLine = 134217728 := by decide
  rw [e] at z3
  omega
theorem mulS {a b : Int} (h : a.natAbs < 2 ^ 64 ∨ b.natAbs < 2 ^ 64) : IntMulOk a b := by
  rcases h with h | h
  · exact IntMulOk.of_left (intBits_le_64 (by omega) (by omega))
  · exact IntMulOk.of_right (intBits_le_64 (by omega) (by omega))
/-! #### the draws, plainly -/
def cellAt (ns : List Int) (k : Int) : Int := ns.getD k.toNat 0
def primes : List Int := [1000003, 1000033, 1000037, 1000039, 1000081, 1000099, 1000117, 1000121, 1000133, 1000151, 1000159, 1000171, 1000183, 1000187, 1000193, 1000199]
theorem primes_pos : ∀ i : Nat, i < 16 → 0 < primes.getD i 0 := by decide
def lawDraw (c k m : Int) : Int := (c * 48271 + k * 69621) % primes.getD (k % 16).toNat 0 % m
theorem lawDraw_in {c k m : Int} (h : 0 < m) : 0 ≤ lawDraw c k m ∧ lawDraw c k m < m := ⟨Int.emod_nonneg _ (by omega), Int.emod_lt_of_pos _ h⟩
def p18 : Int := 10 ^ (18 : Int).toNat
theorem p18_eq : p18 = 1000000000000000000 := by decide
def lawValue (c t : Int) : Int :=
  if p18 ≤ c then (c - p18) / 2 ^ (3 * t).toNat
  else lawDraw ((c + 977 * t) * (c + 31 * t + 5)) (t % 9 + 1) 999983 * 1000003 + lawDraw ((c + 31 * t) * (c + 7) + 977 * t) (t % 7 + 2) 1000003
theorem lawValue_nn (c t : Int) : 0 ≤ lawValue c t := by
  unfold lawValue
  split
  · exact Int.ediv_nonneg (by omega) (two_pow_nn _)
  · have h1 := (lawDraw_in (c := (c + 977 * t) * (c + 31 * t + 5)) (k := t % 9 + 1) (m := 999983) (by decide)).1
    have h2 := (lawDraw_in (c := (c + 31 * t) * (c + 7) + 977 * t) (k := t % 7 + 2) (m := 1000003) (by decide)).1
    omega
section
variable {P : Program} {w : World} {K : PySem.W.Frag} {mg : Str → Option Value} {base : Heap}
theorem sc__law_cell_at : FnScope ["_law_script", "_law_k"] ["_law_script", "_law_k"] (defScope s__law_cell_at) := ⟨rfl, rfl, rfl, by decide +kernel, rfl, by decide +kernel, by decide +kernel⟩
def sp_cell_at (K : PySem.W.Frag) : Sp := fun vs H Q _ => ∃ (a : Addr) (ns : List Int) (k : Int), vs = [.ref a, .int k] ∧ SqL K H a (ns.map V.int) ∧ 0 ≤ k ∧ Q (.int (cellAt ns k)) H
theorem fn__law_cell_at (T : Tx K mg) : Fn P w K mg base "_law_cell_at" 1 (sp_cell_at K) := by
  obtain ⟨fd, F⟩ := T.d__law_cell_at
  refine ⟨_, fd, _, F.ok (CX := CX0) sc__law_cell_at (fun vs H Q E h => ?_) (fun cdv A outer s H vs Q E hr h => ?_), T.g__law_cell_at, F.kp, F.bindsN fun _ _ _ _ _ _ us hl => match us, hl with | [_, _], _ => rfl⟩
  · obtain ⟨a, ns, k, rfl, _⟩ := h; rfl
  · obtain ⟨a, ns, k, rfl, hs, h0, q⟩ := h
    refine ⟨_, PSs.nox (pss_cons (ps_if (pt_cmpR op_lt (pv 1) (pe_callB (show CallR _ _ (rLenQ K) from call_len_seq) (by rfl) T.len (by decide +kernel) (pa_cons (pv 0) pa_nil)) (nomark _)) (pss_one (ps_ret (pe_ix (show IxR _ (rIxL K) from ix_list) (pv 0) (pv 1) (fun _ _ => rfl)))) pss_nil)
      (pss_one (ps_ret pe_int))), ?_⟩
    refine ⟨_, rfl, _, rfl, a, _, rfl, .inl hs, _, _, rfl, rfl, _, rfl, ?_⟩
    rw [List.length_map]
    by_cases h1 : k < (ns.length : Int)
    · rw [decide_eq_true h1]
      exact iteT ⟨_, rfl, _, rfl, a, _, _, _, rfl, rfl, hs, at_int h0 h1, q⟩
    · rw [decide_eq_false h1]
      refine iteF ?_
      have e : cellAt ns k = 0 := by
        unfold cellAt
        rw [List.getD_eq_getElem?_getD, List.getElem?_eq_none (by omega)]; rfl
      rw [e] at q
      exact q
theorem sc__law_draw : FnScope ["_law_cell", "_law_k", "_law_many", "_law_primes"] ["_law_cell", "_law_k", "_law_many"] (defScope s__law_draw) := ⟨rfl, rfl, rfl, by decide +kernel, rfl, by decide +kernel, by decide +kernel⟩
def sp_draw : Sp := fun vs H Q _ => ∃ c k m : Int, vs = [.int c, .int k, .int m] ∧ 0 < m ∧ ∀ H', Same H H' → Q (.int (lawDraw c k m)) H'
theorem fn__law_draw (T : Tx K mg) : Fn P w K mg base "_law_draw" 1 sp_draw := by
  obtain ⟨fd, F⟩ := T.d__law_draw
  refine ⟨_, fd, _, F.ok (CX := CX0) sc__law_draw (fun vs H Q E h => ?_) (fun cdv A outer s H vs Q E hr h => ?_), T.g__law_draw, F.kp, F.bindsN fun _ _ _ _ _ _ us hl => match us, hl with | [_, _, _], _ => rfl⟩
  · obtain ⟨c, k, m, rfl, _⟩ := h; rfl
  · obtain ⟨c, k, m, rfl, hm, q⟩ := h
    refine ⟨_, PSs.nox (pss_cons (ps_set (i := 3) sc__law_draw.nd rfl (by first | exact Or.inl rfl | exact Or.inr rfl) (pe_tup (pa_cons pe_int (pa_cons pe_int (pa_cons pe_int (pa_cons pe_int (pa_cons pe_int (pa_cons pe_int (pa_cons pe_int (pa_cons pe_int (pa_cons pe_int (pa_cons pe_int (pa_cons pe_int (pa_cons pe_int (pa_cons pe_int (pa_cons pe_int (pa_cons pe_int (pa_cons pe_int pa_nil))))))))))))))))))
      (pss_one (ps_ret (pe_op op_mod (pe_op op_mod (pe_op op_add (pe_op op_mulO (pv 0) pe_int) (pe_op op_mulO (pv 1) pe_int)) (pe_ix (show IxR _ (rIxT K) from ix_tup) (pv 3) (pe_op op_mod (pv 1) pe_int) (fun _ _ => rfl))) (pv 2))))), ?_⟩
    have hk0 := Int.emod_nonneg k (b := 16) (by decide)
    have hk1 := Int.emod_lt_of_pos k (b := 16) (by decide)
    refine ⟨by show 16 ≤ sizeLine; decide, fun t nt => ?_⟩
    refine to_new nt fun H1 s1 ht => ?_
    refine ⟨_, rfl, _, _, rfl, rfl, mulS (.inr (by decide)), _, rfl, _, _, rfl, rfl, mulS (.inr (by decide)), _, _, rfl, rfl,
      _, rfl, _, rfl, _, _, rfl, rfl, (show (0 : Int) < 16 by decide), t, primes.map V.int, _, _, rfl, rfl, SqT.of ht, at_int (ls := primes) hk0 hk1, _, _, rfl, rfl, primes_pos _ (by omega), _, rfl, _, _, rfl, rfl, hm, q _ s1⟩
theorem sc__law_value : FnScope ["_law_cell", "_law_turn", "_law_blend"] ["_law_cell", "_law_turn"] (defScope s__law_value) := ⟨rfl, rfl, rfl, by decide +kernel, rfl, by decide +kernel, by decide +kernel⟩
def sp_value : Sp := fun vs H Q _ => ∃ c t : Int, vs = [.int c, .int t] ∧ Bits 1048600 c ∧ 0 ≤ t ∧ t ≤ 100 ∧ ∀ H', Same H H' → Q (.int (lawValue c t)) H'
theorem fn__law_value (T : Tx K mg) : Fn P w K mg base "_law_value" 2 sp_value := by
  obtain ⟨fd, F⟩ := T.d__law_value
  refine ⟨_, fd, _, F.ok (CX := CX0) sc__law_value (fun vs H Q E h => ?_) (fun cdv A outer s H vs Q E hr h => ?_), T.g__law_value, F.kp, F.bindsN fun _ _ _ _ _ _ us hl => match us, hl with | [_, _], _ => rfl⟩
  · obtain ⟨c, k, rfl, _⟩ := h; rfl
  · obtain ⟨c, t, rfl, hb, h0, h1, q⟩ := h
    refine ⟨_, PSs.nox (pss_cons (ps_if (pt_cmpR op_ge (pv 0) (pe_op op_pow pe_int pe_int) (nomark _)) (pss_one (ps_ret (pe_op op_shr (pe_op op_sub (pv 0) (pe_op op_pow pe_int pe_int)) (pe_op op_mulO pe_int (pv 1))))) pss_nil)
      (pss_cons (ps_set (i := 2) sc__law_value.nd rfl (by first | exact Or.inl rfl | exact Or.inr rfl) (pe_fn (fn__law_draw T) (hr.mono (by decide)) (by rfl) (pa_cons (pe_op op_mulO (pe_op op_add (pv 0) (pe_op op_mulO pe_int (pv 1))) (pe_op op_add (pe_op op_add (pv 0) (pe_op op_mulO pe_int (pv 1))) pe_int)) (pa_cons (pe_op op_add (pe_op op_mod (pv 1) pe_int) pe_int) (pa_cons pe_int pa_nil)))))
      (pss_one (ps_ret (pe_op op_add (pe_op op_mulO (pv 2) pe_int) (pe_fn (fn__law_draw T) (hr.mono (by decide)) (by rfl) (pa_cons (pe_op op_add (pe_op op_mulO (pe_op op_add (pv 0) (pe_op op_mulO pe_int (pv 1))) (pe_op op_add (pv 0) pe_int)) (pe_op op_mulO pe_int (pv 1))) (pa_cons (pe_op op_add (pe_op op_mod (pv 1) pe_int) pe_int) (pa_cons pe_int pa_nil))))))))), ?_⟩
    have e18 := p18_eq
    refine ⟨_, rfl, _, _, rfl, rfl, ⟨by decide, by decide, by decide⟩, _, _, rfl, rfl, _, rfl, ?_⟩
    by_cases hc : p18 ≤ c
    · have eq : lawValue c t = (c - p18) / 2 ^ (3 * t).toNat := by unfold lawValue; rw [if_pos hc]
      rw [show decide ((10 : Int) ^ (18 : Int).toNat ≤ c) = true from decide_eq_true hc]
      refine iteT ⟨_, rfl, _, _, rfl, rfl, ⟨by decide, by decide, by decide⟩, _, _, rfl, rfl, _, rfl, _, _, rfl, rfl, mulS (.inl (by decide)), _, _, rfl, rfl, (by show 0 ≤ 3 * t; omega), ?_⟩
      rw [eq] at q
      exact q _ (Same.refl _)
    · have eq : lawValue c t = lawDraw ((c + 977 * t) * (c + 31 * t + 5)) (t % 9 + 1) 999983 * 1000003 + lawDraw ((c + 31 * t) * (c + 7) + 977 * t) (t % 7 + 2) 1000003 := by unfold lawValue; rw [if_neg hc]
      rw [show decide ((10 : Int) ^ (18 : Int).toNat ≤ c) = false from decide_eq_false hc]
      have b1 : Bits 1048601 (c + 977 * t) := hb.add (Bits.small (by omega) (by decide))
      have b2 : Bits 1048601 (c + 31 * t) := hb.add (Bits.small (by omega) (by decide))
      have b3 : Bits 1048602 (c + 31 * t + 5) := b2.add (Bits.small (by omega) (by decide))
      have b4 : Bits 1048601 (c + 7) := hb.add (Bits.small (by omega) (by decide))
      refine iteF ?_
      refine ⟨_, rfl, _, rfl, _, _, rfl, rfl, mulS (.inl (by decide)), _, _, rfl, rfl, _, rfl, _, rfl, _, _, rfl, rfl, mulS (.inl (by decide)), _, _, rfl, rfl, _, _, rfl, rfl, _, _, rfl, rfl, b1.mulOk b3 (by decide),
        _, rfl, _, _, rfl, rfl, (show (0 : Int) < 9 by decide), _, _, rfl, rfl, _, _, _, rfl, by decide, fun H1 s1 => ?_⟩
      refine ⟨_, rfl, _, _, rfl, rfl, mulS (.inr (by decide)), _, rfl, _, rfl, _, _, rfl, rfl, mulS (.inl (by decide)), _, _, rfl, rfl, _, rfl, _, _, rfl, rfl, _, _, rfl, rfl, b2.mulOk b4 (by decide),
        _, rfl, _, _, rfl, rfl, mulS (.inl (by decide)), _, _, rfl, rfl, _, rfl, _, _, rfl, rfl, (show (0 : Int) < 7 by decide), _, _, rfl, rfl, _, _, _, rfl, by decide, fun H2 s2 => ?_⟩
      refine ⟨_, _, rfl, rfl, ?_⟩
      rw [eq] at q
      exact q _ (s1.trans s2)
theorem sc__law_whole : FnScope ["_law_number"] ["_law_number"] (defScope s__law_whole) := ⟨rfl, rfl, rfl, by decide +kernel, rfl, by decide +kernel, by decide +kernel⟩
def sp_law_whole (K : PySem.W.Frag) : Sp := sp_is_whole K
theorem fn__law_whole (T : Tx K mg) : Fn P w K mg base "_law_whole" 1 (sp_is_whole K) := by
  obtain ⟨fd, F⟩ := T.d__law_whole
  refine ⟨_, fd, _, F.ok (CX := CX0) sc__law_whole (fun vs H Q E h => ?_) (fun cdv A outer s H vs Q E hr h => ?_), T.g__law_whole, F.kp, F.bindsN fun _ _ _ _ _ _ us hl => match us, hl with | [_], _ => rfl⟩
  · obtain ⟨v, t, rfl, _⟩ := h; rfl
  · obtain ⟨v, t, rfl, ht, q⟩ := h
    refine ⟨_, PSs.nox (pss_one (ps_ret (pe_and (pe_callB (show CallR _ _ (rIsi K) from call_isi) (by rfl) T.isinstance (by decide +kernel) (pa_cons (pv 0) (pa_cons (pe_gt (n := "int") T.int (by rfl) (by decide +kernel)) pa_nil))) (pe_one (pe_not (pe_callB (show CallR _ _ (rIsi K) from call_isi) (by rfl) T.isinstance (by decide +kernel) (pa_cons (pv 0) (pa_cons (pe_gt (n := "bool") T.bool (by rfl) (by decide +kernel)) pa_nil)))))))), ?_⟩
    obtain ⟨k1, k2, _⟩ := kit_kd ht
    refine ⟨_, rfl, _, _, _, _, _, rfl, .ty _, ht, k1, _, rfl, ?_⟩
    rw [kd_isInt ht] at q
    by_cases e : t = "int"
    · subst e
      exact iteT ⟨_, rfl, _, _, _, _, _, rfl, .ty _, ht, k2, _, rfl, q⟩
    · by_cases e2 : t = "bool"
      · subst e2
        exact iteT ⟨_, rfl, _, _, _, _, _, rfl, .ty _, ht, k2, _, rfl, q⟩
      · have f1 : (t == "int") = false := beq_eq_false_iff_ne.mpr e
        have f2 : (t == "bool") = false := beq_eq_false_iff_ne.mpr e2
        rw [f1] at q
        rw [f1, f2]
        exact iteF q
def lawMany (ns : List Int) : Int := 1 + lawValue (cellAt ns 0) 1 % 6
theorem lawMany_in (ns : List Int) : 1 ≤ lawMany ns ∧ lawMany ns ≤ 6 := by
  have h1 := Int.emod_nonneg (lawValue (cellAt ns 0) 1) (b := 6) (by decide)
  have h2 := Int.emod_lt_of_pos (lawValue (cellAt ns 0) 1) (b := 6) (by decide)
  unfold lawMany
  omega
/-- all the cells of a script -/
def Scr (ns : List Int) : Prop := ns.length ≤ 63 ∧ ∀ z ∈ ns, Bits 1048576 z
theorem Scr.cell {ns : List Int} (h : Scr ns) (k : Int) : Bits 1048576 (cellAt ns k) := by
  unfold cellAt
  rw [List.getD_eq_getElem?_getD]
  cases e : ns[k.toNat]? with
  | none => exact Nat.two_pow_pos _
  | some z => exact h.2 z (List.mem_of_getElem? e)
end
def spLaw (K : PySem.W.Frag) : Sp := fun vs H Q _ => ∃ (a : Addr) (ns : List Int), vs = [.ref a] ∧ SqL K H a (ns.map V.int) ∧ Scr ns ∧ ∀ H', Q (.bl true) H'
end Song

/-! ### Dc: dicts of whole numbers, plainly -/
namespace Song
open PySem L2
def getC (cn : List (Int × Int)) (k : Int) : Option Int := (cn.find? fun p => decide (p.1 = k)).map (·.2)
def putC (cn : List (Int × Int)) (k v : Int) : List (Int × Int) := if (cn.any fun p => decide (p.1 = k)) = true then cn.map (fun p => if p.1 = k then (p.1, v) else p) else cn ++ [(k, v)]
def toK (cn : List (Int × Int)) : List (Key × V) := cn.map fun p => (Sum.inl p.1, V.int p.2)
theorem inl_iff {a b : Int} : ((Sum.inl a : Key) = Sum.inl b) ↔ a = b := ⟨fun e => by injection e, fun e => by rw [e]⟩
theorem valV_toK (k : Int) : ∀ cn : List (Int × Int), valV (toK cn) (Sum.inl k) = (getC cn k).map V.int
  | [] => rfl
  | p :: r => by
    by_cases e : p.1 = k
    · have h1 : valV (toK (p :: r)) (Sum.inl k) = some (.int p.2) := valV_pos (p := (Sum.inl p.1, V.int p.2)) (inl_iff.mpr e)
      rw [h1]
      unfold getC
      rw [List.find?_cons_of_pos (by simpa using e)]; rfl
    · have h1 : valV (toK (p :: r)) (Sum.inl k) = valV (toK r) (Sum.inl k) := valV_neg (p := (Sum.inl p.1, V.int p.2)) (fun z => e (inl_iff.mp z))
      rw [h1, valV_toK k r]
      unfold getC
      rw [List.find?_cons_of_neg (by simpa using e)]
theorem any_toK (k : Int) (cn : List (Int × Int)) : ((toK cn).any fun kv => decide (kv.1 = Sum.inl k)) = cn.any fun p => decide (p.1 = k) := by
  unfold toK
  rw [List.any_map]
  congr 1
  funext p
  exact decide_eq_decide.mpr inl_iff
theorem putK_toK (k v : Int) (cn : List (Int × Int)) : putK (toK cn) (Sum.inl k) (.int v) = toK (putC cn k v) := by
  unfold putK putC
  rw [any_toK]
  split
  · unfold toK
    rw [List.map_map, List.map_map]
    refine List.map_congr_left fun p _ => ?_
    show (if (Sum.inl p.1 : Key) = Sum.inl k then _ else _) = ((fun p : Int × Int => ((Sum.inl p.1 : Key), V.int p.2)) (if p.1 = k then (p.1, v) else p))
    by_cases e : p.1 = k
    · rw [if_pos (inl_iff.mpr e), if_pos e]
    · rw [if_neg (fun z => e (inl_iff.mp z)), if_neg e]
  · unfold toK
    rw [List.map_append]; rfl
theorem toK_len (cn : List (Int × Int)) : (toK cn).length = cn.length := List.length_map _
theorem putC_len (cn : List (Int × Int)) (k v : Int) : (putC cn k v).length ≤ cn.length + 1 := by
  unfold putC
  split
  · rw [List.length_map]; omega
  · rw [List.length_append, List.length_singleton]; omega
theorem getC_putC (cn : List (Int × Int)) (k v s : Int) : getC (putC cn k v) s = if s = k then some v else getC cn s := by
  unfold putC
  by_cases h : (cn.any fun p => decide (p.1 = k)) = true
  · rw [if_pos h]
    induction cn with
    | nil => simp at h
    | cons p r ih =>
      unfold getC at ih ⊢
      rw [List.map_cons]
      by_cases e : p.1 = k
      · rw [if_pos e]
        by_cases e2 : s = k
        · rw [if_pos e2, List.find?_cons_of_pos (by simp [e, e2])]; rfl
        · rw [if_neg e2, List.find?_cons_of_neg (by simp [e]; exact fun z => e2 z.symm), List.find?_cons_of_neg (by simp [e]; exact fun z => e2 z.symm)]
          by_cases h2 : (r.any fun p => decide (p.1 = k)) = true
          · rw [ih h2, if_neg e2]
          · have e3 : r.map (fun p => if p.1 = k then (p.1, v) else p) = r := by
              refine (List.map_congr_left fun q hq => ?_).trans (List.map_id _)
              rw [if_neg (fun z => h2 (List.any_eq_true.mpr ⟨q, hq, decide_eq_true z⟩))]; rfl
            rw [e3]
      · rw [if_neg e]
        have h2 : (r.any fun p => decide (p.1 = k)) = true := by
          rw [List.any_cons, decide_eq_false e] at h; exact h
        by_cases e2 : p.1 = s
        · rw [List.find?_cons_of_pos (by simpa using e2), List.find?_cons_of_pos (by simpa using e2), if_neg (fun z => e (e2.trans z))]
        · rw [List.find?_cons_of_neg (by simpa using e2), List.find?_cons_of_neg (by simpa using e2)]
          exact ih h2
  · rw [if_neg h]
    unfold getC
    rw [List.find?_append]
    by_cases e2 : s = k
    · rw [if_pos e2]
      have n : cn.find? (fun p => decide (p.1 = s)) = none := List.find?_eq_none.mpr fun p hp z => h (List.any_eq_true.mpr ⟨p, hp, by rw [← e2]; exact z⟩)
      rw [n]
      simp [e2]
    · rw [if_neg e2]
      have n : [(k, v)].find? (fun p : Int × Int => decide (p.1 = s)) = none := by
        rw [List.find?_cons_of_neg (by simpa using fun z => e2 z.symm)]; rfl
      rw [n, Option.or_none]
theorem getC_get {H : Hp} {c : Addr} {cn : List (Int × Int)} {x v : Int} (h : H c = some (.dK (toK cn))) (g : getC cn x = some v) : DGet H c (.int x) (some (.int v)) := by
  have z := DGet.k (k := Sum.inl x) h
  rw [valV_toK, g] at z
  exact z
end Song

/-! ### Gp1: rows of singers: where each sings, least gaps (plain) -/
namespace Song
/-- the places of the rows with s -/
def spots (s : Int) (R : List (List Int)) : List Int := (List.range R.length).filterMap fun i => if s ∈ R.getD i [] then some (i : Int) else none
def diffs : List Int → List Int
  | a :: b :: r => (b - a - 1) :: diffs (b :: r)
  | _ => []
def minO : List Int → Option Int
  | [] => none
  | a :: r => some (r.foldl min a)
theorem foldl_min_le : ∀ (r : List Int) (a : Int), r.foldl min a ≤ a ∧ ∀ y ∈ r, r.foldl min a ≤ y
  | [], a => ⟨Int.le_refl _, fun y h => by cases h⟩
  | b :: r, a => by
    obtain ⟨h1, h2⟩ := foldl_min_le r (min a b)
    have e : (b :: r).foldl min a = r.foldl min (min a b) := rfl
    rw [e]
    refine ⟨by omega, fun y hy => ?_⟩
    rcases List.mem_cons.mp hy with q | q
    · omega
    · exact h2 y q
theorem foldl_min_mem : ∀ (r : List Int) (a : Int), r.foldl min a ∈ a :: r
  | [], a => by simp
  | b :: r, a => by
    have h := foldl_min_mem r (min a b)
    have e : (b :: r).foldl min a = r.foldl min (min a b) := rfl
    rw [e]
    rcases List.mem_cons.mp h with q | q
    · rw [q]
      by_cases c : a ≤ b
      · rw [Int.min_eq_left c]; simp
      · rw [Int.min_eq_right (by omega)]; simp
    · simp [q]
theorem minO_eq {ns : List Int} {m : Int} (h : m ∈ ns) (hl : ∀ y ∈ ns, m ≤ y) : minO ns = some m := by
  cases ns with
  | nil => cases h
  | cons a r =>
    obtain ⟨h1, h2⟩ := foldl_min_le r a
    have h3 := hl _ (foldl_min_mem r a)
    show some _ = some m
    congr 1
    rcases List.mem_cons.mp h with q | q
    · omega
    · have := h2 m q; omega
theorem minO_some {ns : List Int} {m : Int} (h : minO ns = some m) : m ∈ ns ∧ ∀ y ∈ ns, m ≤ y := by
  cases ns with
  | nil => cases h
  | cons a r =>
    obtain ⟨h1, h2⟩ := foldl_min_le r a
    have e : r.foldl min a = m := Option.some.inj h
    refine ⟨by rw [← e]; exact foldl_min_mem r a, fun y hy => ?_⟩
    rcases List.mem_cons.mp hy with q | q
    · omega
    · have := h2 y q; omega
theorem minO_none {ns : List Int} : minO ns = none ↔ ns = [] := by
  cases ns with
  | nil => exact ⟨fun _ => rfl, fun _ => rfl⟩
  | cons a r => exact ⟨fun h => (nomatch h), fun h => (nomatch h)⟩
theorem minO_congr {ns ms : List Int} (h : ∀ x, x ∈ ns ↔ x ∈ ms) : minO ns = minO ms := by
  cases e : minO ms with
  | none =>
    rw [minO_none] at e ⊢
    rw [e] at h
    exact List.eq_nil_iff_forall_not_mem.mpr fun x hx => by simpa using (h x).mp hx
  | some m =>
    obtain ⟨h1, h2⟩ := minO_some e
    exact minO_eq ((h m).mpr h1) fun y hy => h2 y ((h y).mp hy)
theorem range_filterMap_congr {β : Type} {n : Nat} {f g : Nat → Option β} (h : ∀ i, i < n → f i = g i) : (List.range n).filterMap f = (List.range n).filterMap g := by
  induction n with
  | zero => rfl
  | succ n ih =>
    rw [List.range_succ, List.filterMap_append, List.filterMap_append, ih fun i hi => h i (by omega)]
    congr 1
    simp only [List.filterMap_cons, List.filterMap_nil]
    rw [h n (by omega)]
theorem spots_nil (s : Int) : spots s [] = [] := rfl
theorem spots_snoc (s : Int) (R : List (List Int)) (r : List Int) : spots s (R ++ [r]) = spots s R ++ (if s ∈ r then [(R.length : Int)] else []) := by
  unfold spots
  rw [List.length_append, List.length_singleton, List.range_succ, List.filterMap_append]
  congr 1
  · refine range_filterMap_congr fun i hi => ?_
    rw [show (R ++ [r]).getD i [] = R.getD i [] by rw [List.getD_eq_getElem?_getD, List.getD_eq_getElem?_getD, List.getElem?_append_left hi]]
  · simp only [List.filterMap_cons, List.filterMap_nil]
    rw [show (R ++ [r]).getD R.length [] = r by rw [List.getD_eq_getElem?_getD, List.getElem?_append_right (Nat.le_refl _)]; simp]
    by_cases c : s ∈ r
    · rw [if_pos c, if_pos c]
    · rw [if_neg c, if_neg c]
theorem spots_mem {s : Int} {R : List (List Int)} {x : Int} : x ∈ spots s R ↔ ∃ i : Nat, i < R.length ∧ s ∈ R.getD i [] ∧ x = i := by
  unfold spots
  rw [List.mem_filterMap]
  constructor
  · rintro ⟨i, hi, h⟩
    rw [List.mem_range] at hi
    by_cases c : s ∈ R.getD i []
    · rw [if_pos c] at h
      exact ⟨i, hi, c, (Option.some.inj h).symm⟩
    · rw [if_neg c] at h; cases h
  · rintro ⟨i, hi, c, rfl⟩
    exact ⟨i, List.mem_range.mpr hi, by rw [if_pos c]⟩
theorem snoc_ind {α : Type} {P : List α → Prop} (h0 : P []) (hs : ∀ l a, P l → P (l ++ [a])) : ∀ l, P l := fun l => by
  have h : ∀ n (l : List α), l.length = n → P l := fun n => by
    induction n with
    | zero => intro l hl; rw [List.eq_nil_of_length_eq_zero hl]; exact h0
    | succ n ih =>
      intro l hl
      have hne : l ≠ [] := fun e => by rw [e] at hl; cases hl
      rw [← List.dropLast_concat_getLast hne]
      exact hs _ _ (ih _ (by rw [List.length_dropLast]; omega))
  exact h _ l rfl
theorem spots_sorted (s : Int) (R : List (List Int)) : (spots s R).Pairwise (· < ·) := by
  refine snoc_ind (P := fun R => (spots s R).Pairwise (· < ·)) List.Pairwise.nil (fun l a h => ?_) R
  rw [spots_snoc]
  refine List.pairwise_append.mpr ⟨h, by split <;> simp, fun x hx y hy => ?_⟩
  obtain ⟨i, hi, _, rfl⟩ := spots_mem.mp hx
  split at hy
  · rw [List.mem_singleton.mp hy]; omega
  · cases hy
theorem diffs_snoc : ∀ (l : List Int) (n : Int), diffs (l ++ [n]) = diffs l ++ (match l.getLast? with | some x => [n - x - 1] | none => [])
  | [], n => rfl
  | [a], n => rfl
  | a :: b :: r, n => by
    have ih := diffs_snoc (b :: r) n
    show (b - a - 1) :: diffs (b :: r ++ [n]) = (b - a - 1) :: (diffs (b :: r) ++ _)
    rw [ih, List.getLast?_cons_cons]
theorem diffs_range : ∀ l : List Int, (List.range (l.length - 1)).map (fun i => l.getD (i + 1) 0 - l.getD i 0 - 1) = diffs l
  | [] => rfl
  | [_] => rfl
  | a :: b :: r => by
    have ih := diffs_range (b :: r)
    show (List.range (r.length + 1)).map _ = (b - a - 1) :: diffs (b :: r)
    rw [← ih, List.range_succ_eq_map, List.map_cons, List.map_map]
    rfl
/-! #### the going over with a dict -/
def lbStep (n : Int) (st : List Int × List (Int × Int)) (s : Int) : List Int × List (Int × Int) := ((match getC st.2 s with | some l => st.1 ++ [n - l - 1] | none => st.1), putC st.2 s n)
def lbRow (st : List Int × List (Int × Int)) (n : Int) (row : List Int) : List Int × List (Int × Int) := row.foldl (lbStep n) st
def lbFrom : Nat → List Int × List (Int × Int) → List (List Int) → List Int × List (Int × Int)
  | _, st, [] => st
  | i, st, r :: R => lbFrom (i + 1) (lbRow st i r) R
def lb (R : List (List Int)) : List Int × List (Int × Int) := lbFrom 0 ([], []) R
def least (R : List (List Int)) : Option Int := minO (lb R).1
theorem lbFrom_snoc : ∀ (R : List (List Int)) (i : Nat) (st : List Int × List (Int × Int)) (r : List Int), lbFrom i st (R ++ [r]) = lbRow (lbFrom i st R) ((i + R.length : Nat) : Int) r
  | [], i, st, r => rfl
  | a :: R, i, st, r => by
    show lbFrom (i + 1) (lbRow st i a) (R ++ [r]) = lbRow (lbFrom (i + 1) (lbRow st i a) R) _ r
    rw [lbFrom_snoc R, show i + 1 + R.length = i + (a :: R).length by rw [List.length_cons]; omega]
theorem lb_snoc (R : List (List Int)) (r : List Int) : lb (R ++ [r]) = lbRow (lb R) (R.length : Int) r := by
  unfold lb
  rw [lbFrom_snoc, Nat.zero_add]
theorem lbRow_spec (n : Int) : ∀ (row : List Int) (st : List Int × List (Int × Int)), row.Nodup →
    (∀ s, getC (lbRow st n row).2 s = if s ∈ row then some n else getC st.2 s) ∧ ∀ x, x ∈ (lbRow st n row).1 ↔ x ∈ st.1 ∨ ∃ s ∈ row, ∃ l, getC st.2 s = some l ∧ x = n - l - 1
  | [], st, _ => ⟨fun s => by simp [lbRow], fun x => by simp [lbRow]⟩
  | a :: row, st, nd => by
    obtain ⟨n1, n2⟩ := List.nodup_cons.mp nd
    obtain ⟨h1, h2⟩ := lbRow_spec n row (lbStep n st a) n2
    have e : lbRow st n (a :: row) = lbRow (lbStep n st a) n row := rfl
    rw [e]
    have g : ∀ s, getC (lbStep n st a).2 s = if s = a then some n else getC st.2 s := fun s => getC_putC _ _ _ _
    refine ⟨fun s => ?_, fun x => ?_⟩
    · rw [h1, g]
      by_cases c : s ∈ row
      · rw [if_pos c, if_pos (by simp [c])]
      · rw [if_neg c]
        by_cases c2 : s = a
        · rw [if_pos c2, if_pos (by simp [c2])]
        · rw [if_neg c2, if_neg (by simp [c, c2])]
    · rw [h2]
      have m : x ∈ (lbStep n st a).1 ↔ x ∈ st.1 ∨ ∃ l, getC st.2 a = some l ∧ x = n - l - 1 := by
        unfold lbStep
        cases c : getC st.2 a with
        | none => simp
        | some l => simp
      rw [m]
      constructor
      · rintro ((h | ⟨l, hl, hx⟩) | ⟨s, hs, l, hl, hx⟩)
        · exact .inl h
        · exact .inr ⟨a, by simp, l, hl, hx⟩
        · rw [g, if_neg (fun z => n1 (by rw [← z]; exact hs))] at hl
          exact .inr ⟨s, by simp [hs], l, hl, hx⟩
      · rintro (h | ⟨s, hs, l, hl, hx⟩)
        · exact .inl (.inl h)
        · rcases List.mem_cons.mp hs with q | q
          · subst q
            exact .inl (.inr ⟨l, hl, hx⟩)
          · refine .inr ⟨s, q, l, ?_, hx⟩
            rw [g, if_neg (fun z => n1 (by rw [← z]; exact q))]
            exact hl
theorem lb_spec (R : List (List Int)) : (∀ r ∈ R, r.Nodup) → (∀ s, getC (lb R).2 s = (spots s R).getLast?) ∧ ∀ x, x ∈ (lb R).1 ↔ ∃ s, x ∈ diffs (spots s R) := by
  refine snoc_ind (P := fun R => (∀ r ∈ R, r.Nodup) → (∀ s, getC (lb R).2 s = (spots s R).getLast?) ∧ ∀ x, x ∈ (lb R).1 ↔ ∃ s, x ∈ diffs (spots s R)) ?_ ?_ R
  · intro _
    exact ⟨fun s => rfl, fun x => ⟨fun h => (nomatch h), fun ⟨s, h⟩ => (nomatch h)⟩⟩
  · intro R r ih nd
    obtain ⟨i1, i2⟩ := ih fun q hq => nd q (by simp [hq])
    obtain ⟨h1, h2⟩ := lbRow_spec (R.length : Int) r (lb R) (nd r (by simp))
    rw [lb_snoc]
    refine ⟨fun s => ?_, fun x => ?_⟩
    · rw [h1, spots_snoc, i1]
      by_cases c : s ∈ r
      · rw [if_pos c, if_pos c, List.getLast?_append]; rfl
      · rw [if_neg c, if_neg c, List.append_nil]
    · rw [h2, i2]
      constructor
      · rintro (⟨s, h⟩ | ⟨s, hs, l, hl, hx⟩)
        · refine ⟨s, ?_⟩
          rw [spots_snoc]
          by_cases c : s ∈ r
          · rw [if_pos c, diffs_snoc]; exact List.mem_append.mpr (.inl h)
          · rw [if_neg c, List.append_nil]; exact h
        · refine ⟨s, ?_⟩
          rw [spots_snoc, if_pos hs, diffs_snoc, ← i1, hl]
          exact List.mem_append.mpr (.inr (by simp [hx]))
      · rintro ⟨s, h⟩
        rw [spots_snoc] at h
        by_cases c : s ∈ r
        · rw [if_pos c, diffs_snoc, ← i1] at h
          rcases List.mem_append.mp h with q | q
          · exact .inl ⟨s, q⟩
          · cases e : getC (lb R).2 s with
            | none => rw [e] at q; cases q
            | some l =>
              rw [e] at q
              exact .inr ⟨s, c, l, e, List.mem_singleton.mp q⟩
        · rw [if_neg c, List.append_nil] at h
          exact .inl ⟨s, h⟩
/-! #### the law's own going over, singer by singer -/
def lawFound (R : List (List Int)) : Nat → List Int
  | 0 => []
  | n + 1 => lawFound R n ++ diffs (spots (n : Int) R)
theorem lawFound_mem (R : List (List Int)) (x : Int) : ∀ n, x ∈ lawFound R n ↔ ∃ s : Nat, s < n ∧ x ∈ diffs (spots (s : Int) R)
  | 0 => ⟨fun h => (nomatch h), fun ⟨s, h, _⟩ => absurd h (by omega)⟩
  | n + 1 => by
    show x ∈ lawFound R n ++ _ ↔ _
    rw [List.mem_append, lawFound_mem R x n]
    constructor
    · rintro (⟨s, h1, h2⟩ | h)
      · exact ⟨s, by omega, h2⟩
      · exact ⟨n, by omega, h⟩
    · rintro ⟨s, h1, h2⟩
      by_cases c : s = n
      · subst c; exact .inr h2
      · exact .inl ⟨s, by omega, h2⟩
/-- rows of singers 0 to 5, each once in a row -/
def RowsOk (R : List (List Int)) : Prop := ∀ r ∈ R, r.Nodup ∧ ∀ s ∈ r, 0 ≤ s ∧ s < 6
theorem getD_mem {R : List (List Int)} {i : Nat} (h : i < R.length) : R.getD i [] ∈ R := by
  rw [List.getD_eq_getElem?_getD, List.getElem?_eq_getElem h]
  exact List.getElem_mem h
theorem spots_out {R : List (List Int)} (h : RowsOk R) {s : Int} (hs : ¬ (0 ≤ s ∧ s < 6)) : spots s R = [] := List.eq_nil_iff_forall_not_mem.mpr fun x hx => by
  obtain ⟨i, hi, hm, _⟩ := spots_mem.mp hx
  exact hs ((h _ (getD_mem hi)).2 s hm)
theorem lawFound_least {R : List (List Int)} (h : RowsOk R) : minO (lawFound R 6) = least R := by
  refine minO_congr fun x => ?_
  rw [lawFound_mem, (lb_spec R fun r hr => (h r hr).1).2]
  constructor
  · rintro ⟨s, _, hx⟩; exact ⟨_, hx⟩
  · rintro ⟨s, hx⟩
    by_cases c : 0 ≤ s ∧ s < 6
    · exact ⟨s.toNat, by omega, by rw [show ((s.toNat : Nat) : Int) = s by omega]; exact hx⟩
    · rw [spots_out h c] at hx; cases hx
/-! #### when there is none -/
theorem spots_len (s : Int) (R : List (List Int)) : (spots s R).length = R.countP fun r => decide (s ∈ r) := by
  refine snoc_ind (P := fun R => (spots s R).length = R.countP fun r => decide (s ∈ r)) rfl (fun l a h => ?_) R
  rw [spots_snoc, List.length_append, h, List.countP_append, List.countP_singleton]
  congr 1
  by_cases c : s ∈ a
  · rw [if_pos c, if_pos (decide_eq_true c)]; rfl
  · rw [if_neg c, if_neg (by simpa using c)]; rfl
theorem diffs_nil : ∀ {l : List Int}, diffs l = [] ↔ l.length ≤ 1
  | [] => by simp [diffs]
  | [_] => by simp [diffs]
  | _ :: _ :: _ => by simp [diffs]
theorem least_none {R : List (List Int)} (nd : ∀ r ∈ R, r.Nodup) : least R = none ↔ ∀ s, R.countP (fun r => decide (s ∈ r)) ≤ 1 := by
  unfold least
  rw [minO_none]
  have h2 := (lb_spec R nd).2
  constructor
  · intro h s
    rw [← spots_len, ← diffs_nil]
    exact List.eq_nil_iff_forall_not_mem.mpr fun x hx => by
      have := (h2 x).mpr ⟨s, hx⟩
      rw [h] at this; cases this
  · intro h
    exact List.eq_nil_iff_forall_not_mem.mpr fun x hx => by
      obtain ⟨s, hs⟩ := (h2 x).mp hx
      have := h s
      rw [← spots_len, ← diffs_nil] at this
      rw [this] at hs; cases hs
theorem least_perm {R R' : List (List Int)} (p : R.Perm R') (nd : ∀ r ∈ R, r.Nodup) : least R = none ↔ least R' = none := by
  rw [least_none nd, least_none fun r hr => nd r (p.symm.subset hr)]
  constructor
  · intro h s; rw [← p.countP_eq]; exact h s
  · intro h s; rw [p.countP_eq]; exact h s
end Song

/-! ### Gp2: all orders, the first of the widest (plain; k08) -/
namespace Song
/-- one turn of all_orders: pairs of an order and what is left -/
def ordStep (f : List (List Int × List Int)) : List (List Int × List Int) := f.flatMap fun p => p.2.map fun one => (p.1 ++ [one], p.2.filter fun other => decide (other ≠ one))
def ordIter : Nat → List (List Int × List Int) → List (List Int × List Int)
  | 0, f => f
  | n + 1, f => ordStep (ordIter n f)
def upto (n : Nat) : List Int := (List.range n).map fun i : Nat => (i : Int)
def allOrders (n : Nat) : List (List Int) := (ordIter n [([], upto n)]).map (·.1)
/-- one turn of the law's orders -/
def lordStep (n : Nat) (f : List (List Int)) : List (List Int) := f.flatMap fun o => ((upto n).filter fun one => decide (one ∉ o)).map fun one => o ++ [one]
def lordIter (n : Nat) : Nat → List (List Int)
  | 0 => [[]]
  | k + 1 => lordStep n (lordIter n k)
def lawOrders (n : Nat) : List (List Int) := lordIter n n
theorem orders_all : ((List.range 6).all fun n => decide (allOrders n = lawOrders n) && ((lawOrders n).all fun o => o.isPerm (upto n)) && decide ((lawOrders n).head? = some (upto n)) && decide ((lawOrders n).length ≤ 120)
    && ((List.range (n + 1)).all fun k => decide ((ordIter k [([], upto n)]).length ≤ 120) && ((ordIter k [([], upto n)]).all fun p => decide (p.1.length = k) && decide (p.2.length ≤ n)) && decide ((lordIter n k).length ≤ 120) && ((lordIter n k).all fun o => decide (o.length = k)))) = true := by decide +kernel
structure OrdOk (n : Nat) : Prop where
  eq : allOrders n = lawOrders n
  perm : ∀ o ∈ lawOrders n, o.Perm (upto n)
  head : (lawOrders n).head? = some (upto n)
  few : (lawOrders n).length ≤ 120
  it : ∀ k ≤ n, (ordIter k [([], upto n)]).length ≤ 120 ∧ (∀ p ∈ ordIter k [([], upto n)], p.1.length = k ∧ p.2.length ≤ n) ∧ (lordIter n k).length ≤ 120 ∧ ∀ o ∈ lordIter n k, o.length = k
theorem ordOk {n : Nat} (h : n ≤ 5) : OrdOk n := by
  have a := List.all_eq_true.mp orders_all n (List.mem_range.mpr (by omega))
  simp only [Bool.and_eq_true, decide_eq_true_eq, List.all_eq_true] at a
  obtain ⟨⟨⟨⟨a1, a2⟩, a3⟩, a4⟩, a5⟩ := a
  refine ⟨a1, fun o ho => List.isPerm_iff.mp (a2 o ho), a3, a4, fun k hk => ?_⟩
  obtain ⟨⟨⟨b1, b2⟩, b3⟩, b4⟩ := a5 k (List.mem_range.mpr (by omega))
  exact ⟨b1, b2, b3, b4⟩
/-! #### the first of the greatest -/
def bestStep {α : Type} (b : Option Int × α) (p : Int × α) : Option Int × α := match b.1 with
  | none => (some p.1, p.2)
  | some g => if p.1 > g then (some p.1, p.2) else b
theorem best_some {α : Type} : ∀ (ps : List (Int × α)) (g : Int) (o : α), ∃ g' o', ps.foldl bestStep (some g, o) = (some g', o') ∧ (∀ p ∈ (g, o) :: ps, p.1 ≤ g') ∧ ((g, o) :: ps).find? (fun p => decide (p.1 = g')) = some (g', o')
  | [], g, o => ⟨g, o, rfl, fun p hp => by rw [List.mem_singleton.mp hp]; exact Int.le_refl _, by simp⟩
  | (h, u) :: r, g, o => by
    by_cases c : h > g
    · obtain ⟨g', o', e1, e2, e3⟩ := best_some r h u
      have hg := e2 (h, u) (by simp)
      simp only at hg
      refine ⟨g', o', ?_, fun p hp => ?_, ?_⟩
      · rw [← e1]
        show r.foldl bestStep (bestStep (some g, o) (h, u)) = _
        congr 1
        show (if h > g then _ else _) = _
        rw [if_pos c]
      · rcases List.mem_cons.mp hp with q | q
        · rw [q]; show g ≤ g'; omega
        · exact e2 p q
      · rw [List.find?_cons_of_neg (by simp; omega)]
        exact e3
    · obtain ⟨g', o', e1, e2, e3⟩ := best_some r g o
      have hg := e2 (g, o) (by simp)
      simp only at hg
      refine ⟨g', o', ?_, fun p hp => ?_, ?_⟩
      · rw [← e1]
        show r.foldl bestStep (bestStep (some g, o) (h, u)) = _
        congr 1
        show (if h > g then _ else _) = _
        rw [if_neg c]
      · rcases List.mem_cons.mp hp with q | q
        · rw [q]; exact hg
        rcases List.mem_cons.mp q with q | q
        · rw [q]; show h ≤ g'; omega
        · exact e2 p (by simp [q])
      · by_cases e : g = g'
        · rw [List.find?_cons_of_pos (by simpa using e)]
          rw [List.find?_cons_of_pos (by simpa using e)] at e3
          exact e3
        · rw [List.find?_cons_of_neg (by simpa using e)] at e3 ⊢
          rw [List.find?_cons_of_neg (by simp; omega)]
          exact e3
theorem best_all {α : Type} {ps : List (Int × α)} {x : α} {g' : Int} {o' : α} (h : ps ≠ []) (e : ps.foldl bestStep (none, x) = (some g', o')) : (∀ p ∈ ps, p.1 ≤ g') ∧ ps.find? (fun p => decide (p.1 = g')) = some (g', o') := by
  cases ps with
  | nil => exact absurd rfl h
  | cons p r =>
    obtain ⟨g, o⟩ := p
    obtain ⟨g2, o2, e1, e2, e3⟩ := best_some r g o
    have e4 : ((g, o) :: r).foldl bestStep (none, x) = r.foldl bestStep (some g, o) := rfl
    rw [e4, e1] at e
    injection e with z1 z2
    injection z1 with z1
    subst z1 z2
    exact ⟨e2, e3⟩
end Song

/-! ### Gw1: rows of singers in the heap; check_groups, least_between -/
namespace Song
open PySem L2
def RowAt (K : PySem.W.Frag) (H : Hp) (v : V) (r : List Int) : Prop := ∃ b, v = .ref b ∧ SqL K H b (r.map V.int)
theorem RowAt.mono {K : PySem.W.Frag} {H H' : Hp} {v : V} {r : List Int} (s : Same H H') (h : RowAt K H v r) : RowAt K H' v r := by
  obtain ⟨b, e, q⟩ := h
  exact ⟨b, e, s.seq q⟩
def Rows (K : PySem.W.Frag) (H : Hp) (vs : List V) (R : List (List Int)) : Prop := vs.length = R.length ∧ ∀ (i : Nat) v, vs[i]? = some v → RowAt K H v (R.getD i [])
theorem Rows.mono {K : PySem.W.Frag} {H H' : Hp} {vs : List V} {R : List (List Int)} (s : Same H H') (h : Rows K H vs R) : Rows K H' vs R := ⟨h.1, fun i v e => (h.2 i v e).mono s⟩
theorem Rows.nil {K : PySem.W.Frag} {H : Hp} : Rows K H [] [] := ⟨rfl, fun i v e => by simp at e⟩
theorem getD_app {R : List (List Int)} {r : List Int} {i : Nat} (h : i < R.length) : (R ++ [r]).getD i [] = R.getD i [] := by
  rw [List.getD_eq_getElem?_getD, List.getD_eq_getElem?_getD, List.getElem?_append_left h]
theorem getD_last {R : List (List Int)} {r : List Int} : (R ++ [r]).getD R.length [] = r := by
  rw [List.getD_eq_getElem?_getD, List.getElem?_append_right (Nat.le_refl _)]; simp
theorem Rows.snoc {K : PySem.W.Frag} {H : Hp} {vs : List V} {R : List (List Int)} {v : V} {r : List Int} (h : Rows K H vs R) (q : RowAt K H v r) : Rows K H (vs ++ [v]) (R ++ [r]) := by
  refine ⟨by rw [List.length_append, List.length_append, h.1]; rfl, fun i u e => ?_⟩
  by_cases c : i < vs.length
  · rw [List.getElem?_append_left c] at e
    rw [getD_app (by rw [← h.1]; exact c)]
    exact h.2 i u e
  · have ei : i = vs.length := by
      have := (List.getElem?_eq_some_iff.mp e).1
      simp at this; omega
    subst ei
    rw [List.getElem?_append_right (Nat.le_refl _)] at e
    simp at e
    subst e
    rw [h.1, getD_last]
    exact q
theorem Rows.at {K : PySem.W.Frag} {H : Hp} {vs : List V} {R : List (List Int)} (h : Rows K H vs R) {o : Int} (h0 : 0 ≤ o) (h1 : o < (R.length : Int)) : ∃ v, atI vs o = some v ∧ RowAt K H v (R.getD o.toNat []) := by
  obtain ⟨j, rfl⟩ := Int.eq_ofNat_of_zero_le h0
  have hj : j < vs.length := by rw [h.1]; omega
  exact ⟨vs[j], atI_nat (List.getElem?_eq_getElem hj), h.2 j _ (List.getElem?_eq_getElem hj)⟩
theorem Rows.all {K : PySem.W.Frag} {H : Hp} {vs : List V} {R : List (List Int)} (h : Rows K H vs R) {v : V} (hv : v ∈ vs) : ∃ r ∈ R, RowAt K H v r := by
  obtain ⟨i, hi, rfl⟩ := List.mem_iff_getElem.mp hv
  exact ⟨_, getD_mem (by rw [← h.1]; exact hi), h.2 i _ (List.getElem?_eq_getElem hi)⟩
/-- the rows in an order -/
def pick (R : List (List Int)) (os : List Int) : List (List Int) := os.map fun o => R.getD o.toNat []
/-- what are songs of one to three singers -/
def GrOk (R : List (List Int)) : Prop := ∀ r ∈ R, areSingers r 6 = true
theorem GrOk.rows {R : List (List Int)} (h : GrOk R) : RowsOk R := fun r hr => by
  obtain ⟨_, _, h3, h4⟩ := areS_len (h r hr)
  exact ⟨(pw_of h4).imp (fun {a b} z => by omega), h3⟩
theorem GrOk.pick {R : List (List Int)} (h : GrOk R) {os : List Int} (hi : InB R.length os) : GrOk (pick R os) := fun r hr => by
  obtain ⟨o, ho, rfl⟩ := List.mem_map.mp hr
  exact h _ (getD_mem (by have := hi o ho; omega))
section
variable {P : Program} {w : World} {K : PySem.W.Frag} {mg : Str → Option Value} {base : Heap}
theorem sc_check_groups : FnScope ["songs", "most", "one"] ["songs", "most"] (defScope s_check_groups) := ⟨rfl, rfl, rfl, by decide +kernel, rfl, by decide +kernel, by decide +kernel⟩
def sp_check_groups (K : PySem.W.Frag) : Sp := fun vs H Q _ => ∃ (a : Addr) (cs : List V) (R : List (List Int)) (most : Int), vs = [.ref a, .int most] ∧ SqL K H a cs ∧ Rows K H cs R ∧ GrOk R ∧ (R.length : Int) ≤ most ∧ R.length ≤ 900 ∧ ∀ H', Same H H' → Q .non H'
theorem all_true (n : Nat) : (List.replicate n true).all id = true := by rw [List.all_eq_true]; intro x hx; rw [(List.mem_replicate.mp hx).2]; rfl
theorem fn_check_groups (T : Tx K mg) : Fn P w K mg base "check_groups" 4 (sp_check_groups K) := by
  obtain ⟨fd, F⟩ := T.d_check_groups
  refine ⟨_, fd, _, F.ok (CX := CX0) sc_check_groups (fun vs H Q E h => ?_) (fun cdv A outer s H vs Q E hr h => ?_), T.g_check_groups, F.kp, F.bindsN fun _ _ _ _ _ _ us hl => match us, hl with | [_, _], _ => rfl⟩
  · obtain ⟨a, cs, R, most, rfl, _⟩ := h; rfl
  · obtain ⟨a, cs, R, most, rfl, hs, hR, hG, hm, hl, q⟩ := h
    refine ⟨_, PSs.nox (pss_cons (ps_if (PW.pt (pw_or (pt_not (pt_val (pe_callB (show CallR _ _ (rIsi K) from call_isi) (by rfl) T.isinstance (by decide +kernel) (pa_cons (pv 0) (pa_cons (pe_gt (n := "list") T.list (by rfl) (by decide +kernel)) pa_nil))))) (pw_or1 (pt_cmpR op_gt (pe_callB (show CallR _ _ (rLenQ K) from call_len_seq) (by rfl) T.len (by decide +kernel) (pa_cons (pv 0) pa_nil)) (pv 1) (nomark _))))) (pss_one ps_never) pss_nil)
      (pss_one (ps_if (pt_not (pt_val (pe_callB (show CallR _ _ (rAll K) from cr_all (by rfl)) (by rfl) T.all (by decide +kernel) (pa_cons (pe_lc (own := [("one", 2)]) (g := (gName 2)) (tt := tYes) (by rfl) sc_check_groups.nd (show PI _ _ _ (iList K _) from pi_list (pv 0)) (blkOk_by (by kernel_rfl)) (fun _ _ _ _ _ => (pg_name (i := 2) sc_check_groups.nd rfl (by first | exact Or.inl rfl | exact Or.inr rfl))) (fun _ _ _ _ _ => pts_nil) (fun _ _ _ _ _ => (pe_fn (fn_are_singers T) (hr.mono (by decide)) (by rfl) (pa_cons (pv 2) (pa_cons (pe_gi T.c_MOST_SINGERS (by rfl)) pa_nil))))) pa_nil)))) (pss_one ps_never) pss_nil))), ?_⟩
    have hlc := hR.1
    refine ⟨_, rfl, _, _, _, _, _, rfl, .ty _, kd_list hs, (kit_kd (kd_list hs)).2.2.1, _, rfl, iteF ?_⟩
    refine ⟨_, rfl, a, _, rfl, .inl hs, _, rfl, _, _, rfl, rfl, _, rfl, ?_⟩
    rw [decide_eq_false (by omega)]
    refine iteF ⟨_, rfl, a, rfl, ⟨_, hs⟩, fun D nD => lc_map (fun _ => .bl true) hs nD (by omega) ?_ ?_ gname_mono⟩
    · intro i x H1 hx s1 k hk
      obtain ⟨r, hr, b, rfl, hb⟩ := hR.all (List.mem_of_getElem? hx)
      have hA := hG r hr
      obtain ⟨_, l3, _, _⟩ := areS_len hA
      refine ⟨rfl, _, rfl, b, r, 6, rfl, s1.seq hb, by omega, fun H2 s2 => ?_⟩
      rw [hA]
      exact hk _ s2
    · intro H1 s1 hD
      refine ⟨_, List.replicate cs.length true, rfl, SqL.of (by rw [hD, List.map_const', List.map_replicate]), _, rfl, ?_⟩
      rw [all_true]
      exact iteF (q _ s1)
theorem sc_least_between : FnScope ["songs", "order", "found", "last", "at", "place", "singer"] ["songs", "order"] (defScope s_least_between) := ⟨rfl, rfl, rfl, by decide +kernel, rfl, by decide +kernel, by decide +kernel⟩
def sp_least_between (K : PySem.W.Frag) : Sp := fun vs H Q _ => ∃ (a b : Addr) (cs : List V) (R : List (List Int)) (os : List Int), vs = [.ref a, .ref b] ∧ SqL K H a cs ∧ Rows K H cs R ∧ (∀ r ∈ R, r.length ≤ 3) ∧ SqL K H b (os.map V.int) ∧ InB R.length os ∧ os.length ≤ 100 ∧
  ∀ H', Same H H' → Q (optV (least (pick R os))) H'
theorem lbStep_len (n : Int) (st : List Int × List (Int × Int)) (s : Int) : (lbStep n st s).1.length ≤ st.1.length + 1 ∧ (lbStep n st s).2.length ≤ st.2.length + 1 := by
  refine ⟨?_, putC_len _ _ _⟩
  unfold lbStep
  cases getC st.2 s with
  | none => show st.1.length ≤ _; omega
  | some l => show (st.1 ++ [_]).length ≤ _; rw [List.length_append, List.length_singleton]; omega
theorem fra2_same {H H' : Hp} {a b x : Addr} {o : HO} (f : Fra [a, b] H H') (n1 : x ≠ a) (n2 : x ≠ b) (h : H x = some o) : H' x = some o := f x o (by simp [n1, n2]) h
theorem fn_least_between (T : Tx K mg) : Fn P w K mg base "least_between" 1 (sp_least_between K) := by
  obtain ⟨fd, F⟩ := T.d_least_between
  refine ⟨_, fd, _, F.ok (CX := CX0) sc_least_between (fun vs H Q E h => ?_) (fun cdv A outer s H vs Q E hr h => ?_), T.g_least_between, F.kp, F.bindsN fun _ _ _ _ _ _ us hl => match us, hl with | [_, _], _ => rfl⟩
  · obtain ⟨a, b, cs, R, os, rfl, _⟩ := h; rfl
  · obtain ⟨a, b, cs, R, os, rfl, ha, hR, h3, hb, hi, hl, q⟩ := h
    refine ⟨_, PSs.nox (pss_cons (ps_par (i := 2) (j := 3) (by rfl) sc_least_between.nd rfl rfl (by decide) rfl rfl (pa_cons (pe_lst pa_nil) (pa_cons pe_dnewK pa_nil)) (by rfl))
      (pss_cons (ps_for PassesOwn.never rfl (show PI _ _ _ (iEnum K _) from pi_enum (by rfl) T.enumerate (pa_cons (pv 1) pa_nil)) (show PG _ _ (gTup K _ _) from pg_tup rfl (pgs_cons (pg_name (i := 4) sc_least_between.nd rfl (by first | exact Or.inl rfl | exact Or.inr rfl)) (pgs_cons (pg_name (i := 5) sc_least_between.nd rfl (by first | exact Or.inl rfl | exact Or.inr rfl)) pgs_nil)))
      (pss_one (ps_for PassesOwn.never rfl (show PI _ _ _ (iList K _) from pi_list (pe_ix (show IxR _ (rIxL K) from ix_list) (pv 0) (pv 5) (fun _ _ => rfl))) (pg_name (i := 6) sc_least_between.nd rfl (by first | exact Or.inl rfl | exact Or.inr rfl))
      (pss_cons (ps_if (pt_cmp (pc_din (hu_of hr) (pv 6) (pv 3))) (pss_one (ps_expr (show PE _ _ (tBM K _ _ _ _) from pe_bm PySem.F.plainAttrs_list PySem.F.slot_list_append PySem.F.type_list_append mt_append (pv 2) (pa_cons (pe_op op_sub (pe_op op_sub (pv 4) (pe_dget (hu_of hr) (pv 3) (pv 6) (fun _ _ => rfl))) pe_int) pa_nil)))) pss_nil)
      (pss_one (ps_dput (hu_of hr) (pv 3) (pv 6) (pv 4) rfl))))))
      (pss_one (ps_ret (pe_ifExp (pt_cmpR (show OpR _ _ (rNeD K) from op_neD hr.units) (pv 2) (pe_lst pa_nil) (nomark _)) (pe_callB (show CallR _ _ (rMin K) from cr_min (by rfl)) (by rfl) T.min (by decide +kernel) (pa_cons (pv 2) pa_nil)) pe_non))))), ?_⟩
    refine ⟨Nat.zero_le _, fun l nl => ?_⟩
    refine to_new nl fun H1 s1 hl1 => ?_
    intro d nd
    refine to_new nd fun H2 s2 hd2 => ?_
    have hl2 := s2 _ _ hl1
    have nld : l ≠ d := ne_of_none hl1 nd
    have s02 := s1.trans s2
    have nS : ∀ x ∈ [l, d], H x = none := fun x hx => by
      simp only [List.mem_cons, List.not_mem_nil, or_false] at hx
      rcases hx with e | e <;> rw [e]
      · exact nl
      · exact s1.free nd
    refine ⟨_, _, rfl, ?_⟩
    have rowLen : ∀ o ∈ os, (R.getD o.toNat []).length ≤ 3 := fun o ho => h3 _ (getD_mem (by have := hi o ho; omega))
    refine ⟨_, rfl, b, _, rfl, s02.seq hb, for_it (walk_enum (xs := os.map V.int)) (fun i σ H' => ∃ (st : List Int × List (Int × Int)) (x4 x5 x6 : Option V), σ = [some (.ref a), some (.ref b), some (.ref l), some (.ref d), x4, x5, x6] ∧
      Fra [l, d] H2 H' ∧ H' l = some (.lst (st.1.map V.int)) ∧ H' d = some (.dK (toK st.2)) ∧ st = lb (pick R (os.take i)) ∧ st.1.length ≤ 3 * i ∧ st.2.length ≤ 3 * i) ?_ ?_ ?_ ?_⟩
    · exact ⟨([], []), _, _, _, rfl, Fra.refl _ _, hl2, hd2, rfl, Nat.le_refl _, Nat.le_refl _⟩
    · rintro i σ H' _ ⟨st, x4, x5, x6, rfl, f, _⟩
      exact (f.back s02 nS).seq hb
    · rintro i v σ H3 H4 hi3 ⟨st, x4, x5, x6, rfl, f3, hl3, hd3, est, b1, b2⟩ ⟨t, x, y, rfl, nt, rfl, hx, hy⟩
      cases hx
      obtain ⟨o, rfl, ho⟩ := int_at hy
      rw [List.length_map] at hi3
      have hom := List.mem_of_getElem? ho
      obtain ⟨o0, o1⟩ := hi o hom
      refine ⟨t, _, rfl, SqT.of upd_same, rfl, _, _, rfl, _, _, rfl, rfl, ?_⟩
      refine to_new nt fun H5 s5 ht => ?_
      have s05 : Same H H5 := (f3.back s02 nS).trans s5
      obtain ⟨u, hu, c, rfl, hcH⟩ := hR.at o0 o1
      have hc := s05.seq hcH
      have hrow := rowLen o hom
      generalize hrw : R.getD o.toNat [] = row at *
      refine ⟨_, rfl, _, rfl, a, cs, o, _, rfl, rfl, s05.seq ha, hu, c, rfl, ⟨_, hc⟩, ?_⟩
      have f5 : Fra [l, d] H2 H5 := f3.trans (Fra.of s5)
      refine for_list (K := K) (a := c) (xs := row.map V.int) (fun j σ H' => ∃ (st' : List Int × List (Int × Int)) (x6 : Option V), σ = [some (.ref a), some (.ref b), some (.ref l), some (.ref d), some (.int (i : Nat)), some (.int o), x6] ∧
        Fra [l, d] H5 H' ∧ H' l = some (.lst (st'.1.map V.int)) ∧ H' d = some (.dK (toK st'.2)) ∧ st' = lbRow st (i : Nat) (row.take j) ∧ st'.1.length ≤ 3 * i + j ∧ st'.2.length ≤ 3 * i + j) ?_ ?_ ?_ ?_
      · exact ⟨st, _, rfl, Fra.refl _ _, s5 _ _ hl3, s5 _ _ hd3, rfl, b1, b2⟩
      · rintro j σ G _ ⟨st', y6, rfl, g, _⟩
        exact ((f5.trans g).back s02 nS).seq hcH
      · rintro j v σ G hv ⟨st', y6, rfl, g, gl, gd, est', c1, c2⟩
        obtain ⟨s, rfl, hs⟩ := int_at hv
        have hj : j < row.length := (List.getElem?_eq_some_iff.mp hs).1
        have fin : lbStep (i : Nat) st' s = lbRow st (i : Nat) (row.take (j + 1)) := by
          unfold lbRow
          rw [foldl_take _ _ _ _ _ hs, est']; rfl
        obtain ⟨e1, e2⟩ := lbStep_len (i : Nat) st' s
        have gp : ∀ G', Fra [l, d] G G' → G' l = some (.lst ((lbStep (i : Nat) st' s).1.map V.int)) → G' d = some (.dK (toK (putC st'.2 s (i : Nat)))) → ∃ (st'' : List Int × List (Int × Int)) (x6 : Option V), [some (V.ref a), some (.ref b), some (.ref l), some (.ref d), some (.int (i : Nat)), some (.int o), some (.int s)] = [some (.ref a), some (.ref b), some (.ref l), some (.ref d), some (.int (i : Nat)), some (.int o), x6] ∧
            Fra [l, d] H5 G' ∧ G' l = some (.lst (st''.1.map V.int)) ∧ G' d = some (.dK (toK st''.2)) ∧ st'' = lbRow st (i : Nat) (row.take (j + 1)) ∧ st''.1.length ≤ 3 * i + (j + 1) ∧ st''.2.length ≤ 3 * i + (j + 1) := fun G' f g1 g2 =>
          ⟨lbStep (i : Nat) st' s, _, rfl, g.trans f, g1, g2, fin, by omega, by omega⟩
        have md : ∀ x ∈ [d], x ∈ [l, d] := fun x hx => by simp at hx; simp [hx]
        have ml : ∀ x ∈ [l], x ∈ [l, d] := fun x hx => by simp at hx; simp [hx]
        refine ⟨_, rfl, _, rfl, d, _, rfl, DGet.k (k := Sum.inl s) gd, _, rfl, ?_⟩
        rw [valV_toK]
        cases hg : getC st'.2 s with
        | none =>
          refine iteF ⟨_, rfl, _, rfl, _, rfl, d, _, rfl, DPut.k (k := Sum.inl s) gd (by rw [toK_len]; exact lt_line (by omega)), ?_⟩
          rw [putK_toK]
          refine to_put fun G1 f1 gd1 => ?_
          refine gp G1 (f1.mono md) ?_ gd1
          have e : (lbStep (i : Nat) st' s).1 = st'.1 := by unfold lbStep; rw [hg]
          rw [e]
          exact f1.one nld gl
        | some x =>
          refine iteT ⟨_, rfl, .inl ⟨rfl, _, SqL.of gl⟩, _, rfl, _, rfl, _, rfl, d, _, rfl, getC_get gd hg, _, _, rfl, rfl, _, _, rfl, rfl, l, _, _, rfl, rfl, gl, lt_line (by rw [List.length_map]; omega), ?_⟩
          refine to_put fun G1 f1 gl1 => ?_
          refine ⟨_, rfl, _, rfl, _, rfl, d, _, rfl, DPut.k (k := Sum.inl s) (f1.one nld.symm gd) (by rw [toK_len]; exact lt_line (by omega)), ?_⟩
          rw [putK_toK]
          refine to_put fun G2 f2 gd2 => ?_
          refine gp G2 ((f1.mono ml).trans (f2.mono md)) ?_ gd2
          have e : (lbStep (i : Nat) st' s).1 = st'.1 ++ [(i : Nat) - x - 1] := by unfold lbStep; rw [hg]
          rw [e, snoc_ints]
          exact f2.one nld gl1
      · rintro σ G ⟨st', y6, rfl, g, gl, gd, est', c1, c2⟩
        rw [List.length_map] at est' c1 c2
        rw [List.take_length] at est'
        refine ⟨st', _, _, _, rfl, f5.trans g, gl, gd, ?_, by omega, by omega⟩
        have e : pick R (os.take (i + 1)) = pick R (os.take i) ++ [row] := by
          unfold pick
          obtain ⟨hlt, eo⟩ := List.getElem?_eq_some_iff.mp ho
          rw [List.take_succ_eq_append_getElem hlt, List.map_append, eo, ← hrw]; rfl
        rw [e, lb_snoc, ← est, est']
        congr 1
        unfold pick
        rw [List.length_map, List.length_take]
        omega
    · rintro σ H3 ⟨st, x4, x5, x6, rfl, f3, hl3, hd3, est, b1, b2⟩
      rw [List.length_map, List.take_length] at est
      rw [List.length_map] at b1
      have s03 := f3.back s02 nS
      have qq := q
      unfold least at q
      rw [← est] at q
      refine ⟨_, rfl, Nat.zero_le _, fun z nz => ?_⟩
      refine to_new nz fun H4 s4 hz => ?_
      refine ⟨_, _, dp_ints (SqL.of (s4 _ _ hl3)), .lst (SqL.of hz) .nil, (shp_ints _).ok, shp_nil.ok, _, rfl, ?_⟩
      rw [eqv_nil]
      cases hst : st.1 with
      | nil =>
        rw [hst] at q
        exact iteF (q _ (s03.trans s4))
      | cons n r =>
        rw [hst] at q hl3
        refine iteT ⟨_, rfl, l, _, rfl, SqL.of (s4 _ _ hl3), by simp, fun m hm hmm => ?_⟩
        rw [minO_eq hm hmm] at q
        exact q _ (s03.trans s4)
end
end Song

/-! ### Gw2: least_gap; all_orders; widest_few (k08) -/
namespace Song
open PySem L2
theorem perm_sorted_eq : ∀ {xs ys : List Int}, xs.Perm ys → xs.Pairwise (· ≤ ·) → ys.Pairwise (· ≤ ·) → xs = ys
  | [], ys, p, _, _ => (List.nil_perm.mp p).symm ▸ rfl
  | x :: l, [], p, _, _ => absurd p.length_eq (by simp)
  | x :: l, y :: m, p, h1, h2 => by
    obtain ⟨a1, a2⟩ := List.pairwise_cons.mp h1
    obtain ⟨b1, b2⟩ := List.pairwise_cons.mp h2
    have e : x = y := by
      have hx : x ∈ y :: m := p.subset (by simp)
      have hy : y ∈ x :: l := p.symm.subset (by simp)
      rcases List.mem_cons.mp hx with q | q
      · exact q
      rcases List.mem_cons.mp hy with q' | q'
      · exact q'.symm
      have := b1 x q
      have := a1 y q'
      omega
    subst e
    rw [perm_sorted_eq (List.perm_cons x |>.mp p) a2 b2]
theorem upto_sorted (n : Nat) : (upto n).Pairwise (· ≤ ·) := by
  unfold upto
  rw [List.pairwise_map]
  exact List.pairwise_lt_range.imp fun {a b} h => by omega
theorem rg0 (n : Nat) : rgV 0 (n : Int) = (upto n).map V.int := by
  unfold rgV upto
  rw [List.map_map, show ((n : Int) - 0).toNat = n by omega]
  refine List.map_congr_left fun i _ => ?_
  show V.int (0 + (i : Nat)) = V.int (i : Nat)
  rw [Int.zero_add]
theorem upto_len (n : Nat) : (upto n).length = n := by unfold upto; rw [List.length_map, List.length_range]
theorem upto_in (n : Nat) : InB n (upto n) := fun s hs => by
  obtain ⟨i, hi, rfl⟩ := List.mem_map.mp hs
  rw [List.mem_range] at hi
  omega
theorem perm_in {n : Nat} {os : List Int} (p : os.Perm (upto n)) : InB n os := fun s hs => upto_in n s (p.subset hs)
section
variable {P : Program} {w : World} {K : PySem.W.Frag} {mg : Str → Option Value} {base : Heap}
theorem sc_least_gap : FnScope ["songs", "order"] ["songs", "order"] (defScope s_least_gap) := ⟨rfl, rfl, rfl, by decide +kernel, rfl, by decide +kernel, by decide +kernel⟩
def sp_least_gap (K : PySem.W.Frag) : Sp := fun vs H Q _ => ∃ (a b : Addr) (cs : List V) (R : List (List Int)) (os : List Int), vs = [.ref a, .ref b] ∧ SqL K H a cs ∧ Rows K H cs R ∧ GrOk R ∧ R.length ≤ 24 ∧ SqL K H b (os.map V.int) ∧ os.Perm (upto R.length) ∧
  ∀ H', Same H H' → Q (optV (least (pick R os))) H'
theorem fn_least_gap (T : Tx K mg) : Fn P w K mg base "least_gap" 5 (sp_least_gap K) := by
  obtain ⟨fd, F⟩ := T.d_least_gap
  refine ⟨_, fd, _, F.ok (CX := CX0) sc_least_gap (fun vs H Q E h => ?_) (fun cdv A outer s H vs Q E hr h => ?_), T.g_least_gap, F.kp, F.bindsN fun _ _ _ _ _ _ us hl => match us, hl with | [_, _], _ => rfl⟩
  · obtain ⟨a, b, cs, R, os, rfl, _⟩ := h; rfl
  · obtain ⟨a, b, cs, R, os, rfl, ha, hR, hG, h24, hb, hp, q⟩ := h
    refine ⟨_, PSs.nox (pss_cons (ps_expr (pe_fn (fn_check_groups T) (hr.mono (by decide)) (by rfl) (pa_cons (pv 0) (pa_cons (pe_gi T.c_MOST_SONGS (by rfl)) pa_nil))))
      (pss_cons (ps_if (PW.pt (pw_or (pt_not (pt_val (pe_fn (fn_are_numbers T) (hr.mono (by decide)) (by rfl) (pa_cons (pv 1) pa_nil)))) (pw_or1 (pt_cmpR (show OpR _ _ (rNeD K) from op_neD hr.units) (pe_callB (show CallR _ _ (rSortedI K) from cr_sortedI) (by rfl) T.sorted (by decide +kernel) (pa_cons (pv 1) pa_nil)) (pe_listRg (by rfl) (by rfl) T.list (prg_1 (by rfl) T.range (pe_callB (show CallR _ _ (rLenQ K) from call_len_seq) (by rfl) T.len (by decide +kernel) (pa_cons (pv 0) pa_nil)))) (nomark _))))) (pss_one ps_never) pss_nil)
      (pss_one (ps_ret (pe_fn (fn_least_between T) (hr.mono (by decide)) (by rfl) (pa_cons (pv 0) (pa_cons (pv 1) pa_nil))))))), ?_⟩
    have hol : os.length = R.length := by rw [hp.length_eq, upto_len]
    have allI : (os.map V.int).all isInt = true := by
      rw [List.all_map, List.all_eq_true]; intro x _; rfl
    refine ⟨_, rfl, a, cs, R, _, rfl, ha, hR, hG, by omega, by omega, fun H1 s1 => ?_⟩
    refine ⟨_, rfl, _, rfl, .inl ⟨b, _, rfl, s1.seq hb, by rw [List.length_map]; omega, fun x hx => ?_, fun H2 s2 => ?_⟩⟩
    · obtain ⟨i, _, rfl⟩ := List.mem_map.mp hx
      exact ⟨_, kd_int i⟩
    rw [allI]
    have s02 := s1.trans s2
    refine ⟨_, rfl, iteF ⟨_, rfl, b, os, rfl, s02.seq hb, fun ns p pe pw np => ?_⟩⟩
    refine to_new np fun H3 s3 hp3 => ?_
    have e : ns = upto R.length := perm_sorted_eq (pe.trans hp) pw (upto_sorted _)
    refine ⟨_, rfl, a, _, rfl, .inl ((s02.trans s3).seq ha), _, rfl, ⟨by decide, by decide, by omega, by have := hR.1; omega, by have := hR.1; omega⟩, fun r nr => ?_⟩
    rw [rg0, hR.1]
    refine to_new nr fun H4 s4 hr4 => ?_
    subst e
    refine ⟨_, _, dp_ints (SqL.of (s4 _ _ hp3)), dp_ints (SqL.of hr4), (shp_ints _).ok, (shp_ints _).ok, _, rfl, ?_⟩
    rw [eqv_ints]
    refine iteF ?_
    have s04 := (s02.trans s3).trans s4
    exact ⟨_, rfl, _, rfl, a, b, cs, R, os, rfl, s04.seq ha, hR.mono s04, fun r hr => (areS_len (hG r hr)).2.1, s04.seq hb, perm_in hp, by omega, fun H5 s5 => q _ (s04.trans s5)⟩
theorem sc_all_orders : FnScope ["many", "found", "turn", "longer", "order", "left", "other", "one"] ["many"] (defScope s_all_orders) := ⟨rfl, rfl, rfl, by decide +kernel, rfl, by decide +kernel, by decide +kernel⟩
/-- pairs of an order and what is left, in the heap; new to H0 -/
def OrdAt (H0 H : Hp) (v : V) (p : List Int × List Int) : Prop := ∃ t b c, v = .ref t ∧ H t = some (.tup [.ref b, .ref c]) ∧ H b = some (.lst (p.1.map V.int)) ∧ H c = some (.lst (p.2.map V.int)) ∧ H0 t = none ∧ H0 b = none ∧ H0 c = none
theorem OrdAt.mono {H0 H H' : Hp} {v : V} {p : List Int × List Int} (s : Same H H') (h : OrdAt H0 H v p) : OrdAt H0 H' v p := by
  obtain ⟨t, b, c, e, h1, h2, h3, h4⟩ := h
  exact ⟨t, b, c, e, s _ _ h1, s _ _ h2, s _ _ h3, h4⟩
theorem OrdAt.into {H0 Hb Hc : Hp} {v : V} {p : List Int × List Int} {D g : Addr} {o : HO} (h : OrdAt Hb (off [D] Hc) v p) (hg : Hb g = some o) (s : Same H0 Hb) : OrdAt H0 (off [g] Hc) v p := by
  obtain ⟨t, b, c, e, h1, h2, h3, n1, n2, n3⟩ := h
  have f : ∀ {x : Addr} {y : HO}, off [D] Hc x = some y → Hb x = none → off [g] Hc x = some y := fun {x y} h n => by
    rw [off_out (fun z => by rw [List.mem_singleton.mp z, hg] at n; cases n)]
    exact (off_some h).2
  exact ⟨t, b, c, e, f h1 n1, f h2 n2, f h3 n3, s.free n1, s.free n2, s.free n3⟩
def Ords (H0 H : Hp) (vs : List V) (ps : List (List Int × List Int)) : Prop := vs.length = ps.length ∧ ∀ (i : Nat) v, vs[i]? = some v → ∃ p, ps[i]? = some p ∧ OrdAt H0 H v p
theorem Ords.mono {H0 H H' : Hp} {vs : List V} {ps : List (List Int × List Int)} (s : Same H H') (h : Ords H0 H vs ps) : Ords H0 H' vs ps := ⟨h.1, fun i v e => by
  obtain ⟨p, h1, h2⟩ := h.2 i v e
  exact ⟨p, h1, h2.mono s⟩⟩
theorem Ords.app {H0 H : Hp} {vs ws : List V} {ps qs : List (List Int × List Int)} (h : Ords H0 H vs ps) (g : Ords H0 H ws qs) : Ords H0 H (vs ++ ws) (ps ++ qs) := by
  refine ⟨by rw [List.length_append, List.length_append, h.1, g.1], fun i v e => ?_⟩
  by_cases c : i < vs.length
  · rw [List.getElem?_append_left c] at e
    rw [List.getElem?_append_left (by rw [← h.1]; exact c)]
    exact h.2 i v e
  · rw [List.getElem?_append_right (by omega)] at e
    rw [List.getElem?_append_right (by rw [← h.1]; omega), ← h.1]
    exact g.2 _ v e
def ordOne (p : List Int × List Int) : List (List Int × List Int) := p.2.map fun one => (p.1 ++ [one], p.2.filter fun other => decide (other ≠ one))
theorem ordStep_take {F : List (List Int × List Int)} {j : Nat} {p : List Int × List Int} (h : F[j]? = some p) : ordStep (F.take (j + 1)) = ordStep (F.take j) ++ ordOne p := by
  obtain ⟨hj, e⟩ := List.getElem?_eq_some_iff.mp h
  unfold ordStep
  rw [List.take_succ_eq_append_getElem hj, List.flatMap_append, e]
  simp [ordOne]
def neqF (ls : List Int) (one : Int) (i : Nat) : Option V := (ls[i]?).bind fun o => if decide (o ≠ one) = true then some (V.int o) else none
theorem neqF_all (ls : List Int) (one : Int) : (List.range ls.length).filterMap (neqF ls one) = (ls.filter fun other => decide (other ≠ one)).map V.int := by
  have e : (List.range ls.length).filterMap (neqF ls one) = ls.filterMap fun o => if decide (o ≠ one) = true then some (V.int o) else none := range_filterMap _ ls
  rw [e, ← List.filterMap_eq_map, List.filterMap_filter]
  rfl
def sp_all_orders : Sp := fun vs H Q _ => ∃ n : Nat, vs = [.int n] ∧ n ≤ 5 ∧
  ∀ l H' ys, H l = none → Same H H' → H' l = some (.lst ys) → ys.length = (allOrders n).length → (∀ (i : Nat) y, ys[i]? = some y → ∃ b o, y = .ref b ∧ (allOrders n)[i]? = some o ∧ H b = none ∧ b ≠ l ∧ H' b = some (.lst (o.map V.int))) → Q (.ref l) H'
theorem fn_all_orders (T : Tx K mg) : Fn P w K mg base "all_orders" 1 sp_all_orders := by
  obtain ⟨fd, F⟩ := T.d_all_orders
  refine ⟨_, fd, _, F.ok (CX := CX0) sc_all_orders (fun vs H Q E h => ?_) (fun cdv A outer s H vs Q E hr h => ?_), T.g_all_orders, F.kp, F.bindsN fun _ _ _ _ _ _ us hl => match us, hl with | [_], _ => rfl⟩
  · obtain ⟨n, rfl, _⟩ := h; rfl
  · obtain ⟨n, rfl, n5, q⟩ := h
    refine ⟨_, PSs.nox (pss_cons (ps_set (i := 1) sc_all_orders.nd rfl (by first | exact Or.inl rfl | exact Or.inr rfl) (pe_lst (pa_cons (pe_tup (pa_cons (pe_lst pa_nil) (pa_cons (pe_listRg (by rfl) (by rfl) T.list (prg_1 (by rfl) T.range (pv 0))) pa_nil))) pa_nil)))
      (pss_cons (ps_for PassesOwn.never rfl (pi_range1 (by rfl) T.range (pa_cons (pv 0) pa_nil)) (pg_name (i := 2) sc_all_orders.nd rfl (by first | exact Or.inl rfl | exact Or.inr rfl))
      (pss_cons (ps_set (i := 3) sc_all_orders.nd rfl (by first | exact Or.inl rfl | exact Or.inr rfl) (pe_lst pa_nil))
      (pss_cons (ps_for PassesOwn.never rfl (show PI _ _ _ (iList K _) from pi_list (pv 1)) (show PG _ _ (gTup K _ _) from pg_tup rfl (pgs_cons (pg_name (i := 4) sc_all_orders.nd rfl (by first | exact Or.inl rfl | exact Or.inr rfl)) (pgs_cons (pg_name (i := 5) sc_all_orders.nd rfl (by first | exact Or.inl rfl | exact Or.inr rfl)) pgs_nil)))
      (pss_one (ps_expr (show PE _ _ (tBM K _ _ _ _) from pe_bm PySem.F.plainAttrs_list PySem.F.slot_list_extend PySem.F.type_list_extend mt_extend (pv 3) (pa_cons (pe_lc (own := [("one", 7)]) (g := (gName 7)) (tt := tYes) (by rfl) sc_all_orders.nd (show PI _ _ _ (iList K _) from pi_list (pv 5)) (blkOk_by (by kernel_rfl)) (fun _ _ _ _ _ => (pg_name (i := 7) sc_all_orders.nd rfl (by first | exact Or.inl rfl | exact Or.inr rfl))) (fun _ _ _ _ _ => pts_nil) (fun _ _ _ _ _ => (pe_tup (pa_cons (pe_op op_cat (pv 4) (pe_lst (pa_cons (pv 7) pa_nil))) (pa_cons (pe_lc (own := [("other", 6)]) (g := (gName 6)) (tt := _) (by rfl) sc_all_orders.nd (show PI _ _ _ (iList K _) from pi_list (pv 5)) (blkOk_by (by kernel_rfl)) (fun _ _ _ _ _ => (pg_name (i := 6) sc_all_orders.nd rfl (by first | exact Or.inl rfl | exact Or.inr rfl))) (fun _ _ _ _ _ => pts_one (pt_cmpR op_ne (pv 6) (pv 7) (nomark _))) (fun _ _ _ _ _ => (pv 6))) pa_nil))))) pa_nil)))))
      (pss_one (ps_set (i := 1) sc_all_orders.nd rfl (by first | exact Or.inl rfl | exact Or.inr rfl) (pv 3))))))
      (pss_one (ps_ret (pe_lc (own := [("order", 4), ("left", 5)]) (g := (gTup K 2 (gCons (gName 4) (gCons (gName 5) gNil)))) (tt := tYes) (by rfl) sc_all_orders.nd (show PI _ _ _ (iList K _) from pi_list (pv 1)) (blkOk_by (by kernel_rfl)) (fun _ _ _ _ _ => (show PG _ _ (gTup K _ _) from pg_tup rfl (pgs_cons (pg_name (i := 4) sc_all_orders.nd rfl (by first | exact Or.inl rfl | exact Or.inr rfl)) (pgs_cons (pg_name (i := 5) sc_all_orders.nd rfl (by first | exact Or.inl rfl | exact Or.inr rfl)) pgs_nil)))) (fun _ _ _ _ _ => pts_nil) (fun _ _ _ _ _ => (pv 4))))))), ?_⟩
    have ok := ordOk n5
    refine ⟨Nat.zero_le _, fun a na => ?_⟩
    refine to_new na fun H1 s1 ha => ?_
    refine ⟨_, rfl, _, rfl, ⟨by decide, by decide, by omega, by omega, by omega⟩, fun b nb => ?_⟩
    rw [rg0]
    refine to_new nb fun H2 s2 hb => ?_
    refine ⟨by show 2 ≤ sizeLine; decide, fun c nc => ?_⟩
    refine to_new nc fun H3 s3 hc => ?_
    refine ⟨by show 1 ≤ sizeLine; decide, fun f nf => ?_⟩
    refine to_new nf fun H4 s4 hf => ?_
    have s14 : Same H1 H4 := (s2.trans s3).trans s4
    have s24 : Same H2 H4 := s3.trans s4
    refine ⟨_, rfl, _, rfl, by omega, by omega, for_range (lo := 0) (fun i σ H' => ∃ (f : Addr) (ys : List V) (x2 x3 x4 x5 x6 x7 : Option V), σ = [some (.int n), some (.ref f), x2, x3, x4, x5, x6, x7] ∧
      Same H H' ∧ H f = none ∧ H' f = some (.lst ys) ∧ Ords H (off [f] H') ys (ordIter i [([], upto n)])) ?_ ?_ ?_⟩
    · refine ⟨f, _, _, _, _, _, _, _, rfl, s1.trans s14, s1.free (s2.free (s3.free nf)), hf, rfl, fun i v e => ?_⟩
      cases i with
      | succ i => simp at e
      | zero =>
        simp at e
        subst e
        refine ⟨_, rfl, c, a, b, rfl, ?_, ?_, ?_, s1.free (s2.free nc), na, s1.free nb⟩
        · rw [off_out (by simp; exact (ne_of_none hc nf))]; exact s4 _ _ hc
        · rw [off_out (by simp; exact (ne_of_none (s3 _ _ (s2 _ _ ha)) nf))]; exact s14 _ _ ha
        · rw [off_out (by simp; exact (ne_of_none (s3 _ _ hb) nf))]; exact s24 _ _ hb
    · rintro i σ H5 hi ⟨f, ys, x2, x3, x4, x5, x6, x7, rfl, s5, nf, hf5, ho⟩
      have hin : i < n := by omega
      obtain ⟨len1, ps1, _⟩ := ok.it i (by omega)
      generalize hF : ordIter i [([], upto n)] = F at *
      refine ⟨Nat.zero_le _, fun g ng => ?_⟩
      refine to_new ng fun H6 s6 hg => ?_
      have nfg : f ≠ g := ne_of_none hf5 ng
      refine ⟨_, rfl, f, rfl, ⟨_, SqL.of (s6 _ _ hf5)⟩, for_list (K := K) (a := f) (xs := ys) (fun j σ H' => ∃ (zs : List V) (x4 x5 x6 x7 : Option V), σ = [some (.int n), some (.ref f), some (.int (0 + (i : Int))), some (.ref g), x4, x5, x6, x7] ∧
        Fra [g] H6 H' ∧ H' g = some (.lst zs) ∧ zs.length ≤ 5 * j ∧ Ords H (off [g] H') zs (ordStep (F.take j))) ?_ ?_ ?_ ?_⟩
      · exact ⟨[], _, _, _, _, rfl, Fra.refl _ _, hg, Nat.le_refl _, rfl, fun i v e => by simp at e⟩
      · rintro j σ G _ ⟨zs, _, _, _, _, _, f6, _⟩
        exact SqL.of (f6.one nfg (s6 _ _ hf5))
      · rintro j v σ G hv ⟨zs, y4, y5, y6, y7, rfl, f6, hgG, zl, hz⟩
        obtain ⟨p, hp, t, b, c, rfl, ht, hb, hc, _⟩ := ho.2 j v hv
        have hj : j < F.length := (List.getElem?_eq_some_iff.mp hp).1
        obtain ⟨pl1, pl2⟩ := ps1 p (List.mem_of_getElem? hp)
        have mG : ∀ {x : Addr} {o : HO}, off [f] H5 x = some o → G x = some o := fun {x o} e => by
          have e2 := (off_some e).2
          exact f6.one (ne_of_none e2 ng) (s6 _ _ e2)
        have htG := mG ht
        have hbG := mG hb
        have hcG := mG hc
        have sHG : Same H G := f6.back (s5.trans s6) (fun a ha => by rw [List.mem_singleton.mp ha]; exact s5.free ng)
        refine ⟨t, _, rfl, SqT.of htG, rfl, _, _, rfl, _, _, rfl, rfl, ?_⟩
        refine ⟨_, rfl, .inl ⟨rfl, _, SqL.of hgG⟩, ?_⟩
        refine ⟨_, rfl, c, rfl, ⟨_, SqL.of hcG⟩, fun D nD => lc_all walk_list sqL_mono (SqL.of hcG) (fun i H y => ∃ one, p.2[i]? = some one ∧ OrdAt G H y (p.1 ++ [one], p.2.filter fun other => decide (other ≠ one))) ?_ nD (by rw [List.length_map]; omega) ?_ ?_ gname_mono⟩
        · rintro i H1 H2 y s1 ⟨one, h1, h2⟩
          exact ⟨one, h1, h2.mono s1⟩
        · rintro k x G1 G2 acc hk g1 hD ⟨rfl, hx⟩ kk hkk
          obtain ⟨one, rfl, hone⟩ := int_at hx
          refine ⟨rfl, _, rfl, _, rfl, by show 1 ≤ sizeLine; decide, fun z nz => ?_⟩
          refine to_new nz fun G3 g3 hz3 => ?_
          refine ⟨b, z, _, _, rfl, rfl, g3 _ _ (g1 _ _ hbG), hz3, by rw [List.length_map]; show p.1.length + 1 ≤ sizeLine; have := lt_line (n := p.1.length + 1) (by omega); omega, fun u nu => ?_⟩
          refine to_new nu fun G4 g4 hu4 => ?_
          have g14 := g1.trans (g3.trans g4)
          refine ⟨_, rfl, c, rfl, ⟨_, SqL.of (g14 _ _ hcG)⟩, fun D2 nD2 => lc_pure walk_list sqL_mono (SqL.of (g14 _ _ hcG)) (neqF p.2 one) nD2 (by rw [List.length_map]; omega) ?_ ?_⟩
          · rintro m x2 G5 G6 hm g5 ⟨rfl, hx2⟩ k2 kn2 hk2 hkn2
            obtain ⟨other, rfl, hoth⟩ := int_at hx2
            refine ⟨rfl, _, rfl, _, rfl, rfl, _, rfl, ?_⟩
            by_cases e : other = one
            · rw [decide_eq_true (by rw [e])]
              refine iteF (hkn2 _ ?_ (Same.refl _))
              unfold neqF
              rw [hoth]
              simp [e]
            · rw [decide_eq_false (by intro z; injection z; exact e (by assumption))]
              refine iteT ⟨_, rfl, hk2 _ _ ?_ (Same.refl _)⟩
              unfold neqF
              rw [hoth]
              simp [e]
          · intro G5 g5 hD2
            rw [List.length_map, neqF_all] at hD2
            refine ⟨by show 2 ≤ sizeLine; decide, fun t2 nt2 => ?_⟩
            have nDz : ∀ {x : Addr} {X : Hp}, Same G2 X → X x = none → x ∉ [D] := fun {x X} s n z => by
              rw [List.mem_singleton.mp z, s _ _ hD] at n; cases n
            refine hkk _ _ ((g3.trans g4).trans (g5.trans (Same.new nt2))) ⟨one, hone, t2, u, D2, rfl, ?_, ?_, ?_, ?_, ?_, ?_⟩
            · rw [off_out (nDz ((g3.trans g4).trans g5) nt2)]; exact upd_same
            · rw [off_out (nDz g3 nu)]
              refine (Same.new nt2) _ _ (g5 _ _ ?_)
              rw [hu4, snoc_ints]
            · rw [off_out (nDz (g3.trans g4) nD2)]
              exact (Same.new nt2) _ _ hD2
            · exact (g14.trans g5).free nt2
            · exact (g1.trans g3).free nu
            · exact g14.free nD2
        · intro ys' G1 g1 hD hl' hr
          rw [List.length_map] at hl'
          refine ⟨g, D, _, _, rfl, rfl, g1 _ _ hgG, hD, ?_, ?_⟩
          · have := lt_line (n := zs.length + ys'.length) (by omega); omega
          refine to_put fun G2 f2 hg2 => ?_
          refine ⟨_, _, _, _, _, rfl, f6.trans ((Fra.of g1).trans f2), hg2, by rw [List.length_append]; omega, ?_⟩
          rw [ordStep_take hp]
          refine ((hz.mono (off_mono g1)).app ?_).mono (Fra.off f2)
          refine ⟨by rw [hl']; unfold ordOne; rw [List.length_map], fun m y hy => ?_⟩
          obtain ⟨one, h1, h2⟩ := hr m y hy
          refine ⟨_, ?_, h2.into hgG sHG⟩
          unfold ordOne
          rw [List.getElem?_map, h1]; rfl
      · rintro σ G ⟨zs, y4, y5, y6, y7, rfl, f6, hgG, zl, hz⟩
        have e : F.take ys.length = F := List.take_of_length_le (by rw [ho.1]; exact Nat.le_refl _)
        rw [e] at hz
        refine ⟨_, rfl, g, zs, _, _, _, _, _, _, rfl, f6.back (s5.trans s6) (fun a ha => by rw [List.mem_singleton.mp ha]; exact s5.free ng), s5.free ng, hgG, ?_⟩
        show Ords H _ zs (ordStep (ordIter i _))
        rw [hF]
        exact hz
    · rintro σ H5 ⟨f, ys, x2, x3, x4, x5, x6, x7, rfl, s5, nf, hf5, ho⟩
      rw [show ((n : Int)).toNat = n by omega] at ho
      obtain ⟨len1, _⟩ := ok.it n (Nat.le_refl _)
      refine ⟨_, rfl, f, rfl, ⟨_, SqL.of hf5⟩, fun D nD => lc_all walk_list sqL_mono (SqL.of hf5) (fun i H' y => ∃ b o, y = .ref b ∧ (allOrders n)[i]? = some o ∧ H b = none ∧ H' b = some (.lst (o.map V.int))) ?_ nD (by rw [ho.1]; omega) ?_ ?_ gtup_mono⟩
      · rintro i H1 H2 y s1 ⟨b, o, h1, h2, h3, h4⟩
        exact ⟨b, o, h1, h2, h3, s1 _ _ h4⟩
      · rintro k x G1 G2 acc hk g1 hD ⟨rfl, hx⟩ kk hkk
        obtain ⟨p, hp, t, b, c, rfl, ht, hb, hc, n1, n2, n3⟩ := ho.2 k x hx
        have htG := g1 _ _ (off_some ht).2
        have hbG := g1 _ _ (off_some hb).2
        refine ⟨t, _, rfl, SqT.of htG, rfl, _, _, rfl, _, _, rfl, rfl, rfl, _, rfl, hkk _ _ (Same.refl _) ⟨b, p.1, rfl, ?_, n2, ?_⟩⟩
        · unfold allOrders
          rw [List.getElem?_map, hp]; rfl
        · have n : b ≠ D := ne_of_none (off_some hb).2 nD
          rw [off_out (by simp; exact n)]
          exact hbG
      · intro ys' G1 g1 hD hl' hr
        refine q D G1 ys' (s5.free nD) (s5.trans g1) hD (by rw [hl', ho.1]; unfold allOrders; rw [List.length_map]) fun i y e => ?_
        obtain ⟨b, o, h1, h2, h3, h4⟩ := hr i y e
        obtain ⟨h5, h6⟩ := off_some h4
        exact ⟨b, o, h1, h2, h3, by simpa using h5, h6⟩
theorem sc_widest_few : FnScope ["songs", "best", "order", "gap"] ["songs"] (defScope s_widest_few) := ⟨rfl, rfl, rfl, by decide +kernel, rfl, by decide +kernel, by decide +kernel⟩
/-- the widest gap and the first order for it -/
def widestFew (R : List (List Int)) : Option Int × List Int := if least R = none then (none, upto R.length) else ((allOrders R.length).map fun o => ((least (pick R o)).getD 0, o)).foldl bestStep (none, upto R.length)
def sp_widest_few (K : PySem.W.Frag) : Sp := fun vs H Q _ => ∃ (a : Addr) (cs : List V) (R : List (List Int)), vs = [.ref a] ∧ SqL K H a cs ∧ Rows K H cs R ∧ GrOk R ∧ R.length ≤ 5 ∧
  ∀ t b H', H t = none → H b = none → Same H H' → H' t = some (.tup [optV (widestFew R).1, .ref b]) → H' b = some (.lst ((widestFew R).2.map V.int)) → Q (.ref t) H'
theorem pick_upto (R : List (List Int)) : pick R (upto R.length) = R := by
  unfold pick upto
  rw [List.map_map]
  refine List.ext_getElem (by rw [List.length_map, List.length_range]) fun i h1 h2 => ?_
  rw [List.getElem_map, List.getElem_range]
  show R.getD i [] = R[i]
  rw [List.getD_eq_getElem?_getD, List.getElem?_eq_getElem h2]; rfl
theorem pick_perm {R : List (List Int)} {os : List Int} (p : os.Perm (upto R.length)) : (pick R os).Perm R := by
  have h := p.map fun o : Int => R.getD o.toNat []
  have e : (upto R.length).map (fun o : Int => R.getD o.toNat []) = R := pick_upto R
  rw [e] at h
  exact h
theorem optV_non (o : Option Int) : decide (optV o = .non) = decide (o = none) := by
  cases o with
  | none => rfl
  | some n => rfl
theorem fn_widest_few (T : Tx K mg) : Fn P w K mg base "widest_few" 5 (sp_widest_few K) := by
  obtain ⟨fd, F⟩ := T.d_widest_few
  refine ⟨_, fd, _, F.ok (CX := CX0) sc_widest_few (fun vs H Q E h => ?_) (fun cdv A outer s H vs Q E hr h => ?_), T.g_widest_few, F.kp, F.bindsN fun _ _ _ _ _ _ us hl => match us, hl with | [_], _ => rfl⟩
  · obtain ⟨a, cs, R, rfl, _⟩ := h; rfl
  · obtain ⟨a, cs, R, rfl, hs, hR, hG, h5, q⟩ := h
    refine ⟨_, PSs.nox (pss_cons (ps_expr (pe_fn (fn_check_groups T) (hr.mono (by decide)) (by rfl) (pa_cons (pv 0) (pa_cons (pe_gi T.c_FEW (by rfl)) pa_nil))))
      (pss_cons (ps_set (i := 1) sc_widest_few.nd rfl (by first | exact Or.inl rfl | exact Or.inr rfl) (pe_tup (pa_cons pe_non (pa_cons (pe_listRg (by rfl) (by rfl) T.list (prg_1 (by rfl) T.range (pe_callB (show CallR _ _ (rLenQ K) from call_len_seq) (by rfl) T.len (by decide +kernel) (pa_cons (pv 0) pa_nil)))) pa_nil))))
      (pss_cons (ps_if (pt_cmpR op_isN (pe_fn (fn_least_between T) (hr.mono (by decide)) (by rfl) (pa_cons (pv 0) (pa_cons (pe_ix (show IxR _ (rIxT K) from ix_tup) (pv 1) pe_int (fun _ _ => rfl)) pa_nil))) pe_non (nomark _)) (pss_one (ps_ret (pv 1))) pss_nil)
      (pss_cons (ps_for PassesOwn.never rfl (show PI _ _ _ (iList K _) from pi_list (pe_fn (fn_all_orders T) (hr.mono (by decide)) (by rfl) (pa_cons (pe_callB (show CallR _ _ (rLenQ K) from call_len_seq) (by rfl) T.len (by decide +kernel) (pa_cons (pv 0) pa_nil)) pa_nil))) (pg_name (i := 2) sc_widest_few.nd rfl (by first | exact Or.inl rfl | exact Or.inr rfl))
      (pss_cons (ps_set (i := 3) sc_widest_few.nd rfl (by first | exact Or.inl rfl | exact Or.inr rfl) (pe_fn (fn_least_between T) (hr.mono (by decide)) (by rfl) (pa_cons (pv 0) (pa_cons (pv 2) pa_nil))))
      (pss_one (ps_if (PW.pt (pw_or (pt_cmpR op_isN (pe_ix (show IxR _ (rIxT K) from ix_tup) (pv 1) pe_int (fun _ _ => rfl)) pe_non (nomark _)) (pw_or1 (pt_cmpR op_gt (pv 3) (pe_ix (show IxR _ (rIxT K) from ix_tup) (pv 1) pe_int (fun _ _ => rfl)) (nomark _))))) (pss_one (ps_set (i := 1) sc_widest_few.nd rfl (by first | exact Or.inl rfl | exact Or.inr rfl) (pe_tup (pa_cons (pv 3) (pa_cons (pv 2) pa_nil))))) pss_nil))))
      (pss_one (ps_ret (pv 1))))))), ?_⟩
    have hlc := hR.1
    have h3 : ∀ r ∈ R, r.length ≤ 3 := fun r hr => (areS_len (hG r hr)).2.1
    refine ⟨_, rfl, a, cs, R, 5, rfl, hs, hR, hG, by omega, by omega, fun H1 s1 => ?_⟩
    refine ⟨_, rfl, a, _, rfl, .inl (s1.seq hs), _, rfl, ⟨by decide, by decide, by omega, by omega, by omega⟩, fun b nb => ?_⟩
    rw [rg0, hlc]
    refine to_new nb fun H2 s2 hb => ?_
    refine ⟨by show 2 ≤ sizeLine; decide, fun t nt => ?_⟩
    refine to_new nt fun H3 s3 ht => ?_
    have s13 := s1.trans (s2.trans s3)
    refine ⟨_, rfl, _, rfl, t, _, _, _, rfl, rfl, SqT.of ht, atI_nat (j := 1) rfl, a, b, cs, R, upto R.length, rfl, s13.seq hs, hR.mono s13, h3, SqL.of (s3 _ _ hb), upto_in _, by rw [upto_len]; omega, fun H4 s4 => ⟨rfl, _, rfl, ?_⟩⟩
    rw [pick_upto, optV_non]
    have s14 := s13.trans s4
    by_cases hN : least R = none
    · rw [decide_eq_true hN]
      have e : widestFew R = (none, upto R.length) := by unfold widestFew; rw [if_pos hN]
      rw [e] at q
      exact iteT ⟨_, rfl, q t b H4 (s1.free (s2.free nt)) (s1.free nb) s14 (s4 _ _ ht) (s4 _ _ (s3 _ _ hb))⟩
    rw [decide_eq_false hN]
    have ew : widestFew R = ((allOrders R.length).map fun o => ((least (pick R o)).getD 0, o)).foldl bestStep (none, upto R.length) := by unfold widestFew; rw [if_neg hN]
    have ok := ordOk h5
    refine iteF ⟨_, rfl, a, _, rfl, .inl (s14.seq hs), R.length, by show [V.int (cs.length : Nat)] = _; rw [hlc], h5, fun l H5 ys nl s5 hl5 hyl hys => ?_⟩
    have s15 := s14.trans s5
    refine ⟨l, rfl, ⟨_, SqL.of hl5⟩, for_list (K := K) (a := l) (xs := ys) (fun i σ H' => ∃ (t b : Addr) (x2 x3 : Option V) (bst : Option Int × List Int), σ = [some (.ref a), some (.ref t), x2, x3] ∧ Same H5 H' ∧
      bst = (((allOrders R.length).take i).map fun o => ((least (pick R o)).getD 0, o)).foldl bestStep (none, upto R.length) ∧ H' t = some (.tup [optV bst.1, .ref b]) ∧ H' b = some (.lst (bst.2.map V.int)) ∧ H t = none ∧ H b = none) ?_ ?_ ?_ ?_⟩
    · exact ⟨t, b, _, _, _, rfl, Same.refl _, rfl, s5 _ _ (s4 _ _ ht), s5 _ _ (s4 _ _ (s3 _ _ hb)), s1.free (s2.free nt), s1.free nb⟩
    · rintro i σ G _ ⟨_, _, _, _, _, _, g, _⟩
      exact SqL.of (g _ _ hl5)
    · rintro i v σ G hv ⟨t, b, x2, x3, bst, rfl, g, eb, ht, hb, nt, nb⟩
      obtain ⟨b2, o, rfl, ho, nb2, nbl, hb2⟩ := hys i v hv
      have hom : o ∈ lawOrders R.length := by rw [← ok.eq]; exact List.mem_of_getElem? ho
      have pm := ok.perm o hom
      have nn : least (pick R o) ≠ none := fun z => hN ((least_perm (pick_perm pm) (fun r hr => ((hG.pick (perm_in pm)).rows r hr).1)).mp z)
      obtain ⟨gp, hgp⟩ := Option.ne_none_iff_exists'.mp nn
      have sg := s15.trans g
      refine ⟨_, rfl, _, rfl, a, b2, cs, R, o, rfl, sg.seq hs, hR.mono sg, h3, SqL.of (g _ _ hb2), perm_in pm, by rw [pm.length_eq, upto_len]; omega, fun G1 g1 => ?_⟩
      rw [hgp]
      have eb2 : (((allOrders R.length).take (i + 1)).map fun o => ((least (pick R o)).getD 0, o)).foldl bestStep (none, upto R.length) = bestStep bst (gp, o) := by
        obtain ⟨hi, eo⟩ := List.getElem?_eq_some_iff.mp ho
        rw [List.take_succ_eq_append_getElem hi, List.map_append, List.foldl_append, ← eb, eo]
        show bestStep bst ((least (pick R o)).getD 0, o) = _
        rw [hgp]; rfl
      have ht1 := g1 _ _ ht
      refine ⟨_, rfl, t, _, _, _, rfl, rfl, SqT.of ht1, atI_nat (j := 0) rfl, rfl, _, rfl, ?_⟩
      rw [optV_non]
      cases hb1 : bst.1 with
      | none =>
        have eS : bestStep bst (gp, o) = (some gp, o) := by unfold bestStep; rw [hb1]
        refine iteT (iteT ⟨_, rfl, _, rfl, by show 2 ≤ sizeLine; decide, fun t2 nt2 => ?_⟩)
        refine ⟨t2, b2, _, _, _, rfl, (g.trans g1).trans (Same.new nt2), rfl, ?_, ?_, sg.free (g1.free nt2), s14.free nb2⟩
        · rw [eb2, eS]; exact upd_same
        · rw [eb2, eS]; exact (Same.new nt2) _ _ (g1 _ _ (g _ _ hb2))
      | some g0 =>
        refine iteF ⟨_, rfl, _, rfl, t, _, _, _, rfl, rfl, SqT.of ht1, atI_nat (j := 0) rfl, gp, g0, rfl, (by rw [hb1]; rfl), _, rfl, ?_⟩
        by_cases hgt : gp > g0
        · have eS : bestStep bst (gp, o) = (some gp, o) := by unfold bestStep; rw [hb1]; exact if_pos hgt
          rw [decide_eq_true hgt]
          refine iteT ⟨_, rfl, _, rfl, by show 2 ≤ sizeLine; decide, fun t2 nt2 => ?_⟩
          refine ⟨t2, b2, _, _, _, rfl, (g.trans g1).trans (Same.new nt2), rfl, ?_, ?_, sg.free (g1.free nt2), s14.free nb2⟩
          · rw [eb2, eS]; exact upd_same
          · rw [eb2, eS]; exact (Same.new nt2) _ _ (g1 _ _ (g _ _ hb2))
        · have eS : bestStep bst (gp, o) = bst := by unfold bestStep; rw [hb1]; exact if_neg hgt
          rw [decide_eq_false hgt]
          refine iteF ⟨t, b, _, _, _, rfl, g.trans g1, rfl, ?_, ?_, nt, nb⟩
          · rw [eb2, eS]; exact ht1
          · rw [eb2, eS]; exact g1 _ _ hb
    · rintro σ G ⟨t, b, x2, x3, bst, rfl, g, eb, ht, hb, nt, nb⟩
      rw [hyl, List.take_length, ← ew] at eb
      rw [eb] at ht hb
      exact ⟨_, rfl, q t b G nt nb (s15.trans g) ht hb⟩
end
end Song

/-! ### Gw3: the law's own least gap (k07, k08) -/
namespace Song
open PySem L2
section
variable {J : It} {n : Nat} {G : Hp → Prop} {Y : Nat → Hp → V → Hp → Prop} {g : TG} {tt : TT} {te : TE} {vs : List Nat} {σ : L2.St} {H1 : Hp} {D : Addr} {Qd : Hp → Prop}
/-- a test that hangs on the turn, elements told by R -/
theorem lc_sel (w : Walk J n G Y) (hGm : ∀ H H', Same H H' → G H → G H') (hG : G H1) (keep : Nat → Bool) (R : Nat → Hp → V → Prop) (hR : ∀ i H H' y, Same H H' → R i H y → R i H' y) (nD : H1 D = none) (hlen : n ≤ 1000)
    (hs : ∀ (i : Nat) x H H' acc, i < n → Same H1 H → H D = some (.lst acc) → Y i H x H' → ∀ (k : V → Hp → Prop) (kn : Hp → Prop), (keep i = true → ∀ y H2, Same H H2 → R i (off [D] H2) y → k y H2) → (keep i = false → ∀ H2, Same H H2 → kn H2) →
      g x (wipe σ vs) H' fun σ2 H2 => wipe σ2 vs = wipe σ vs ∧ tt σ2 H2 fun b H3 => if b = true then te σ2 H3 k else kn H3)
    (hd : ∀ ys H, Same H1 H → H D = some (.lst ys) → ys.length = ((List.range n).filter keep).length → (∀ (j : Nat) y, ys[j]? = some y → ∃ i, ((List.range n).filter keep)[j]? = some i ∧ R i (off [D] H) y) → Qd H) : LcAsks J g tt te vs σ H1 D Qd := by
  refine lc_it w (fun i H => Same H1 H ∧ ∃ ys, H D = some (.lst ys) ∧ ys.length = ((List.range i).filter keep).length ∧ ∀ (j : Nat) y, ys[j]? = some y → ∃ m, ((List.range i).filter keep)[j]? = some m ∧ R m (off [D] H) y) ?_ ?_ ?_ ?_
  · exact ⟨Same.new nD, [], upd_same, rfl, fun j y e => by simp at e⟩
  · intro i H _ h
    exact hGm _ _ h.1 hG
  · rintro i x H H' hi ⟨s, ys, hD, hl, hy⟩ hY
    have hf : ((List.range i).filter keep).length ≤ i := by
      have := List.length_filter_le keep (List.range i)
      rwa [List.length_range] at this
    refine hs i x H H' ys hi s hD hY _ _ (fun hk y H4 s4 r => ?_) (fun hk H4 s4 => ?_)
    · have e : (List.range (i + 1)).filter keep = (List.range i).filter keep ++ [i] := by
        rw [List.range_succ, List.filter_append]; simp [hk]
      refine ⟨ys, s4 _ _ hD, Nat.lt_of_le_of_lt (show ys.length ≤ 1000 by omega) (by decide), same_put nD (s.trans s4), ys ++ [y], upd_same, by rw [e, List.length_append, List.length_append, hl]; rfl, fun j y' ej => ?_⟩
      rw [off_one, e]
      by_cases hj : j < ys.length
      · rw [List.getElem?_append_left hj] at ej
        obtain ⟨m, h1, h2⟩ := hy j y' ej
        refine ⟨m, ?_, hR m _ _ _ (off_mono s4) h2⟩
        rw [List.getElem?_append_left (by rw [← hl]; exact hj)]
        exact h1
      · have ej2 : j = ys.length := by
          have := (List.getElem?_eq_some_iff.mp ej).1
          simp at this; omega
        subst ej2
        rw [List.getElem?_append_right (Nat.le_refl _)] at ej
        simp at ej
        subst ej
        refine ⟨i, ?_, r⟩
        rw [hl, List.getElem?_append_right (Nat.le_refl _)]; simp
    · have e : (List.range (i + 1)).filter keep = (List.range i).filter keep := by
        rw [List.range_succ, List.filter_append]; simp [hk]
      rw [e]
      refine ⟨s.trans s4, ys, s4 _ _ hD, hl, fun j y ej => ?_⟩
      obtain ⟨m, h1, h2⟩ := hy j y ej
      exact ⟨m, h1, hR m _ _ _ (off_mono s4) h2⟩
  · rintro H ⟨s, ys, hD, hl, hy⟩
    exact hd ys H s hD hl hy
end
def spotF (s : Int) (R : List (List Int)) (i : Nat) : Option V := if s ∈ R.getD i [] then some (V.int (i : Int)) else none
theorem spotF_all (s : Int) (R : List (List Int)) : (List.range R.length).filterMap (spotF s R) = (spots s R).map V.int := by
  unfold spots
  rw [List.map_filterMap]
  congr 1
  funext i
  unfold spotF
  split <;> rfl
theorem diffF_all (l : List Int) : (List.range (l.length - 1)).filterMap (fun i => some (V.int (l.getD (i + 1) 0 - l.getD i 0 - 1))) = (diffs l).map V.int := by
  rw [← diffs_range, List.map_map]
  exact congrFun List.filterMap_eq_map _
theorem spots_le (s : Int) (R : List (List Int)) : (spots s R).length ≤ R.length := by
  rw [spots_len]; exact List.countP_le_length
theorem diffs_len : ∀ l : List Int, (diffs l).length ≤ l.length
  | [] => Nat.le_refl _
  | [_] => Nat.zero_le _
  | a :: b :: r => by
    have := diffs_len (b :: r)
    show (diffs (b :: r)).length + 1 ≤ (b :: r).length + 1
    omega
section
variable {P : Program} {w : World} {K : PySem.W.Frag} {mg : Str → Option Value} {base : Heap}
theorem sc__law_least : FnScope ["_law_songs", "_law_order", "_law_found", "_law_singer", "_law_spots", "_law_at", "_law_place"] ["_law_songs", "_law_order"] (defScope s__law_least) := ⟨rfl, rfl, rfl, by decide +kernel, rfl, by decide +kernel, by decide +kernel⟩
def sp_law_least (K : PySem.W.Frag) : Sp := fun vs H Q _ => ∃ (a b : Addr) (cs : List V) (R : List (List Int)) (os : List Int), vs = [.ref a, .ref b] ∧ SqL K H a cs ∧ Rows K H cs R ∧ GrOk R ∧ SqL K H b (os.map V.int) ∧ InB R.length os ∧ os.length ≤ 100 ∧
  ∀ H', Same H H' → Q (optV (least (pick R os))) H'
theorem fn__law_least (T : Tx K mg) : Fn P w K mg base "_law_least" 1 (sp_law_least K) := by
  obtain ⟨fd, F⟩ := T.d__law_least
  refine ⟨_, fd, _, F.ok (CX := CX0) sc__law_least (fun vs H Q E h => ?_) (fun cdv A outer s H vs Q E hr h => ?_), T.g__law_least, F.kp, F.bindsN fun _ _ _ _ _ _ us hl => match us, hl with | [_, _], _ => rfl⟩
  · obtain ⟨a, b, cs, R, os, rfl, _⟩ := h; rfl
  · obtain ⟨a, b, cs, R, os, rfl, ha, hR, hG, hb, hi, hl, q⟩ := h
    refine ⟨_, PSs.nox (pss_cons (ps_set (i := 2) sc__law_least.nd rfl (by first | exact Or.inl rfl | exact Or.inr rfl) (pe_lst pa_nil))
      (pss_cons (ps_for PassesOwn.never rfl (pi_range1 (by rfl) T.range (pa_cons pe_int pa_nil)) (pg_name (i := 3) sc__law_least.nd rfl (by first | exact Or.inl rfl | exact Or.inr rfl))
      (pss_cons (ps_set (i := 4) sc__law_least.nd rfl (by first | exact Or.inl rfl | exact Or.inr rfl) (pe_lc (own := [("_law_at", 5), ("_law_place", 6)]) (g := (gTup K 2 (gCons (gName 5) (gCons (gName 6) gNil)))) (tt := _) (by rfl) sc__law_least.nd (show PI _ _ _ (iEnum K _) from pi_enum (by rfl) T.enumerate (pa_cons (pv 1) pa_nil)) (blkOk_by (by kernel_rfl)) (fun _ _ _ _ _ => (show PG _ _ (gTup K _ _) from pg_tup rfl (pgs_cons (pg_name (i := 5) sc__law_least.nd rfl (by first | exact Or.inl rfl | exact Or.inr rfl)) (pgs_cons (pg_name (i := 6) sc__law_least.nd rfl (by first | exact Or.inl rfl | exact Or.inr rfl)) pgs_nil)))) (fun _ _ _ _ _ => pts_one (pt_cmpR (show OpR _ _ (rIn K false) from op_in_seq) (pv 3) (pe_ix (show IxR _ (rIxL K) from ix_list) (pv 0) (pv 6) (fun _ _ => rfl)) (by rfl))) (fun _ _ _ _ _ => (pv 5))))
      (pss_one (ps_set (i := 2) sc__law_least.nd rfl (by first | exact Or.inl rfl | exact Or.inr rfl) (pe_op op_cat (pv 2) (pe_lc (own := [("_law_at", 5)]) (g := (gName 5)) (tt := tYes) (by rfl) sc__law_least.nd (pi_range1 (by rfl) T.range (pa_cons (pe_op op_sub (pe_callB (show CallR _ _ (rLenQ K) from call_len_seq) (by rfl) T.len (by decide +kernel) (pa_cons (pv 4) pa_nil)) pe_int) pa_nil)) (blkOk_by (by kernel_rfl)) (fun _ _ _ _ _ => (pg_name (i := 5) sc__law_least.nd rfl (by first | exact Or.inl rfl | exact Or.inr rfl))) (fun _ _ _ _ _ => pts_nil) (fun _ _ _ _ _ => (pe_op op_sub (pe_op op_sub (pe_ix (show IxR _ (rIxL K) from ix_list) (pv 4) (pe_op op_add (pv 5) pe_int) (fun _ _ => rfl)) (pe_ix (show IxR _ (rIxL K) from ix_list) (pv 4) (pv 5) (fun _ _ => rfl))) pe_int))))))))
      (pss_one (ps_ret (pe_ifExp (pt_cmpR (show OpR _ _ (rNeD K) from op_neD hr.units) (pv 2) (pe_lst pa_nil) (nomark _)) (pe_callB (show CallR _ _ (rMin K) from cr_min (by rfl)) (by rfl) T.min (by decide +kernel) (pa_cons (pv 2) pa_nil)) pe_non))))), ?_⟩
    refine ⟨Nat.zero_le _, fun l nl => ?_⟩
    refine to_new nl fun H1 s1 hl1 => ?_
    have pl : (pick R os).length = os.length := List.length_map _
    refine ⟨6, rfl, by decide, by decide, for_range (lo := 0) (fun i σ H' => ∃ (l : Addr) (x3 x4 x5 x6 : Option V), σ = [some (.ref a), some (.ref b), some (.ref l), x3, x4, x5, x6] ∧ Same H H' ∧ H' l = some (.lst ((lawFound (pick R os) i).map V.int)) ∧ (lawFound (pick R os) i).length ≤ 100 * i) ?_ ?_ ?_⟩
    · exact ⟨l, _, _, _, _, rfl, s1, hl1, Nat.le_refl _⟩
    · rintro i σ H2 hi6 ⟨l, x3, x4, x5, x6, rfl, s2, hl2, ll⟩
      have hi6 : i < 6 := by omega
      refine ⟨_, rfl, b, _, rfl, s2.seq hb, fun D nD => lc_pure walk_enum sqL_mono (s2.seq hb) (spotF (i : Int) (pick R os)) nD (by rw [List.length_map]; omega) ?_ ?_⟩
      · rintro k v H3 H4 hk s3 ⟨t, x, y, rfl, nt, rfl, hx, hy⟩ kk kn hkk hkn
        cases hx
        obtain ⟨o, rfl, ho⟩ := int_at hy
        obtain ⟨o0, o1⟩ := hi o (List.mem_of_getElem? ho)
        have sT : Same H3 _ := Same.new (o := .tup [V.int (k : Nat), V.int o]) nt
        have s23 := s2.trans (s3.trans sT)
        obtain ⟨u, hu, c, rfl, hc⟩ := (hR.mono s23).at o0 o1
        refine ⟨t, _, rfl, SqT.of upd_same, rfl, _, _, rfl, _, _, rfl, rfl, rfl, ?_⟩
        refine ⟨_, rfl, _, rfl, _, rfl, a, cs, o, _, rfl, rfl, s23.seq ha, hu, c, _, rfl, .inl hc, rfl, flat_ints _, _, rfl, ?_⟩
        rw [inV_ints, Int.zero_add]
        have er : (pick R os).getD k [] = R.getD o.toNat [] := by
          unfold pick
          rw [List.getD_eq_getElem?_getD, List.getElem?_map, ho]; rfl
        by_cases hm : (i : Int) ∈ R.getD o.toNat []
        · rw [decide_eq_true hm]
          refine iteT ⟨_, rfl, hkk _ _ ?_ sT⟩
          unfold spotF
          rw [er, if_pos hm]
        · rw [decide_eq_false hm]
          refine iteF (hkn _ ?_ sT)
          unfold spotF
          rw [er, if_neg hm]
      · intro H3 s3 hD
        rw [List.length_map, ← pl, spotF_all] at hD
        have sl := spots_le (i : Int) (pick R os)
        have dl := diffs_len (spots (i : Int) (pick R os))
        refine ⟨_, rfl, _, rfl, D, _, rfl, .inl (SqL.of hD), _, _, rfl, rfl, _, rfl, by rw [List.length_map]; omega, by rw [List.length_map]; omega, fun D2 nD2 => ?_⟩
        generalize hsp : spots (i : Int) (pick R os) = sp at *
        rw [List.length_map, show ((sp.length : Int) - 1).toNat = sp.length - 1 by omega]
        refine lc_pure walk_range (fun _ _ _ h => h) trivial (fun i => some (V.int (sp.getD (i + 1) 0 - sp.getD i 0 - 1))) nD2 (by omega) ?_ ?_
        · rintro k x G1 G2 hk g1 ⟨rfl, rfl⟩ kk kn hkk _
          have hDg := SqL.of (K := K) (g1 _ _ hD)
          refine ⟨rfl, yes_of ⟨_, rfl, _, rfl, _, _, rfl, rfl, D, _, _, _, rfl, rfl, hDg, at_int (by omega) (by omega), _, rfl, _, rfl, D, _, _, _, rfl, rfl, hDg, at_int (by omega) (by omega), _, _, rfl, rfl, _, _, rfl, rfl, ?_⟩⟩
          refine hkk _ _ ?_ (Same.refl _)
          rw [show (0 + (k : Int) + 1).toNat = k + 1 by omega, show (0 + (k : Int)).toNat = k by omega]
        · intro H4 s4 hD2
          rw [diffF_all] at hD2
          have dl2 := List.length_map (as := diffs sp) V.int
          refine ⟨l, D2, _, _, rfl, rfl, s4 _ _ (s3 _ _ hl2), hD2, ?_, fun p np => ?_⟩
          · rw [List.length_map, List.length_map]
            have := lt_line (n := (lawFound (pick R os) i).length + (diffs sp).length) (by omega)
            omega
          refine to_new np fun H5 s5 hp => ?_
          have e : lawFound (pick R os) (i + 1) = lawFound (pick R os) i ++ diffs sp := by
            show _ ++ diffs (spots _ _) = _
            rw [hsp]
          refine ⟨p, _, _, _, _, rfl, s2.trans (s3.trans (s4.trans s5)), ?_, ?_⟩
          · rw [e, List.map_append]; exact hp
          · rw [e, List.length_append]; omega
    · rintro σ H2 ⟨l, x3, x4, x5, x6, rfl, s2, hl2, ll⟩
      have hl2 : H2 l = some (.lst ((lawFound (pick R os) 6).map V.int)) := hl2
      rw [← lawFound_least ((hG.pick hi).rows)] at q
      generalize lawFound (pick R os) 6 = fd at *
      refine ⟨_, rfl, Nat.zero_le _, fun z nz => ?_⟩
      refine to_new nz fun H4 s4 hz => ?_
      refine ⟨_, _, dp_ints (SqL.of (s4 _ _ hl2)), .lst (SqL.of hz) .nil, (shp_ints _).ok, shp_nil.ok, _, rfl, ?_⟩
      rw [eqv_nil]
      cases fd with
      | nil => exact iteF (q _ (s2.trans s4))
      | cons n r =>
        refine iteT ⟨_, rfl, l, _, rfl, SqL.of (s4 _ _ hl2), by simp, fun m hm hmm => ?_⟩
        rw [minO_eq hm hmm] at q
        exact q _ (s2.trans s4)
end
end Song

/-! ### Lo8: the law's orders, its songs (k08) -/
namespace Song
open PySem L2
/-- a list of numbers, new to H0 -/
def NewAt (H0 H : Hp) (v : V) (o : List Int) : Prop := ∃ b, v = .ref b ∧ H b = some (.lst (o.map V.int)) ∧ H0 b = none
theorem NewAt.mono {H0 H H' : Hp} {v : V} {o : List Int} (s : Same H H') (h : NewAt H0 H v o) : NewAt H0 H' v o := by
  obtain ⟨b, e, h1, h2⟩ := h
  exact ⟨b, e, s _ _ h1, h2⟩
theorem NewAt.into {H0 Hb Hc : Hp} {v : V} {o : List Int} {D g : Addr} {x : HO} (h : NewAt Hb (off [D] Hc) v o) (hg : Hb g = some x) (s : Same H0 Hb) : NewAt H0 (off [g] Hc) v o := by
  obtain ⟨b, e, h1, n1⟩ := h
  refine ⟨b, e, ?_, s.free n1⟩
  rw [off_out (fun z => by rw [List.mem_singleton.mp z, hg] at n1; cases n1)]
  exact (off_some h1).2
def News (H0 H : Hp) (vs : List V) (ps : List (List Int)) : Prop := vs.length = ps.length ∧ ∀ (i : Nat) v, vs[i]? = some v → ∃ p, ps[i]? = some p ∧ NewAt H0 H v p
theorem News.mono {H0 H H' : Hp} {vs : List V} {ps : List (List Int)} (s : Same H H') (h : News H0 H vs ps) : News H0 H' vs ps := ⟨h.1, fun i v e => by
  obtain ⟨p, h1, h2⟩ := h.2 i v e
  exact ⟨p, h1, h2.mono s⟩⟩
theorem News.app {H0 H : Hp} {vs ws : List V} {ps qs : List (List Int)} (h : News H0 H vs ps) (g : News H0 H ws qs) : News H0 H (vs ++ ws) (ps ++ qs) := by
  refine ⟨by rw [List.length_append, List.length_append, h.1, g.1], fun i v e => ?_⟩
  by_cases c : i < vs.length
  · rw [List.getElem?_append_left c] at e
    rw [List.getElem?_append_left (by rw [← h.1]; exact c)]
    exact h.2 i v e
  · rw [List.getElem?_append_right (by omega)] at e
    rw [List.getElem?_append_right (by rw [← h.1]; omega), ← h.1]
    exact g.2 _ v e
theorem News.rows {K : PySem.W.Frag} {H0 H : Hp} {vs : List V} {R : List (List Int)} (h : News H0 H vs R) : Rows K H vs R := ⟨h.1, fun i v e => by
  obtain ⟨p, h1, b, e2, h2, _⟩ := h.2 i v e
  refine ⟨b, e2, ?_⟩
  rw [List.getD_eq_getElem?_getD, h1]
  exact SqL.of h2⟩
section
variable {P : Program} {w : World} {K : PySem.W.Frag} {mg : Str → Option Value} {base : Heap}
theorem sc__law_orders : FnScope ["_law_many", "_law_found", "_law_turn", "_law_longer", "_law_order", "_law_one"] ["_law_many"] (defScope s__law_orders) := ⟨rfl, rfl, rfl, by decide +kernel, rfl, by decide +kernel, by decide +kernel⟩
def lordOne (n : Nat) (o : List Int) : List (List Int) := ((upto n).filter fun one => decide (one ∉ o)).map fun one => o ++ [one]
theorem lordStep_take {n : Nat} {F : List (List Int)} {j : Nat} {o : List Int} (h : F[j]? = some o) : lordStep n (F.take (j + 1)) = lordStep n (F.take j) ++ lordOne n o := by
  obtain ⟨hj, e⟩ := List.getElem?_eq_some_iff.mp h
  unfold lordStep
  rw [List.take_succ_eq_append_getElem hj, List.flatMap_append, e]
  simp [lordOne]
theorem lordOne_eq (n : Nat) (o : List Int) : lordOne n o = ((List.range n).filter fun i : Nat => decide ((i : Int) ∉ o)).map fun i : Nat => o ++ [(i : Int)] := by
  unfold lordOne upto
  rw [List.filter_map, List.map_map]
  rfl
def sp_law_orders : Sp := fun vs H Q _ => ∃ n : Nat, vs = [.int n] ∧ n ≤ 5 ∧
  ∀ l H' ys, H l = none → Same H H' → H' l = some (.lst ys) → News H (off [l] H') ys (lawOrders n) → Q (.ref l) H'
theorem fn__law_orders (T : Tx K mg) : Fn P w K mg base "_law_orders" 1 sp_law_orders := by
  obtain ⟨fd, F⟩ := T.d__law_orders
  refine ⟨_, fd, _, F.ok (CX := CX0) sc__law_orders (fun vs H Q E h => ?_) (fun cdv A outer s H vs Q E hr h => ?_), T.g__law_orders, F.kp, F.bindsN fun _ _ _ _ _ _ us hl => match us, hl with | [_], _ => rfl⟩
  · obtain ⟨n, rfl, _⟩ := h; rfl
  · obtain ⟨n, rfl, n5, q⟩ := h
    refine ⟨_, PSs.nox (pss_cons (ps_set (i := 1) sc__law_orders.nd rfl (by first | exact Or.inl rfl | exact Or.inr rfl) (pe_lst (pa_cons (pe_lst pa_nil) pa_nil)))
      (pss_cons (ps_for PassesOwn.never rfl (pi_range1 (by rfl) T.range (pa_cons (pv 0) pa_nil)) (pg_name (i := 2) sc__law_orders.nd rfl (by first | exact Or.inl rfl | exact Or.inr rfl))
      (pss_cons (ps_set (i := 3) sc__law_orders.nd rfl (by first | exact Or.inl rfl | exact Or.inr rfl) (pe_lst pa_nil))
      (pss_cons (ps_for PassesOwn.never rfl (show PI _ _ _ (iList K _) from pi_list (pv 1)) (pg_name (i := 4) sc__law_orders.nd rfl (by first | exact Or.inl rfl | exact Or.inr rfl))
      (pss_one (ps_expr (show PE _ _ (tBM K _ _ _ _) from pe_bm PySem.F.plainAttrs_list PySem.F.slot_list_extend PySem.F.type_list_extend mt_extend (pv 3) (pa_cons (pe_lc (own := [("_law_one", 5)]) (g := (gName 5)) (tt := _) (by rfl) sc__law_orders.nd (pi_range1 (by rfl) T.range (pa_cons (pv 0) pa_nil)) (blkOk_by (by kernel_rfl)) (fun _ _ _ _ _ => (pg_name (i := 5) sc__law_orders.nd rfl (by first | exact Or.inl rfl | exact Or.inr rfl))) (fun _ _ _ _ _ => pts_one (pt_cmpR (show OpR _ _ (rIn K true) from op_notIn_seq) (pv 5) (pv 4) (by rfl))) (fun _ _ _ _ _ => (pe_op op_cat (pv 4) (pe_lst (pa_cons (pv 5) pa_nil))))) pa_nil)))))
      (pss_one (ps_set (i := 1) sc__law_orders.nd rfl (by first | exact Or.inl rfl | exact Or.inr rfl) (pv 3))))))
      (pss_one (ps_ret (pv 1))))), ?_⟩
    have ok := ordOk n5
    refine ⟨Nat.zero_le _, fun a na => ?_⟩
    refine to_new na fun H1 s1 ha => ?_
    refine ⟨by show 1 ≤ sizeLine; decide, fun f nf => ?_⟩
    refine to_new nf fun H4 s4 hf => ?_
    refine ⟨_, rfl, _, rfl, by omega, by omega, for_range (lo := 0) (fun i σ H' => ∃ (f : Addr) (ys : List V) (x2 x3 x4 x5 : Option V), σ = [some (.int n), some (.ref f), x2, x3, x4, x5] ∧
      Same H H' ∧ H f = none ∧ H' f = some (.lst ys) ∧ News H (off [f] H') ys (lordIter n i)) ?_ ?_ ?_⟩
    · refine ⟨f, _, _, _, _, _, rfl, s1.trans s4, s1.free nf, hf, rfl, fun i v e => ?_⟩
      cases i with
      | succ i => simp at e
      | zero =>
        simp at e
        subst e
        refine ⟨_, rfl, a, rfl, ?_, na⟩
        rw [off_out (by simp; exact (ne_of_none ha nf))]; exact s4 _ _ ha
    · rintro i σ H5 hi ⟨f, ys, x2, x3, x4, x5, rfl, s5, nf, hf5, ho⟩
      have hin : i < n := by omega
      obtain ⟨_, _, len1, ps1⟩ := ok.it i (by omega)
      generalize hF : lordIter n i = F at *
      refine ⟨Nat.zero_le _, fun g ng => ?_⟩
      refine to_new ng fun H6 s6 hg => ?_
      have nfg : f ≠ g := ne_of_none hf5 ng
      refine ⟨_, rfl, f, rfl, ⟨_, SqL.of (s6 _ _ hf5)⟩, for_list (K := K) (a := f) (xs := ys) (fun j σ H' => ∃ (zs : List V) (x4 x5 : Option V), σ = [some (.int n), some (.ref f), some (.int (0 + (i : Int))), some (.ref g), x4, x5] ∧
        Fra [g] H6 H' ∧ H' g = some (.lst zs) ∧ zs.length ≤ 5 * j ∧ News H (off [g] H') zs (lordStep n (F.take j))) ?_ ?_ ?_ ?_⟩
      · exact ⟨[], _, _, rfl, Fra.refl _ _, hg, Nat.le_refl _, rfl, fun i v e => by simp at e⟩
      · rintro j σ G _ ⟨zs, _, _, _, f6, _⟩
        exact SqL.of (f6.one nfg (s6 _ _ hf5))
      · rintro j v σ G hv ⟨zs, y4, y5, rfl, f6, hgG, zl, hz⟩
        obtain ⟨o, hp, b, rfl, hb, _⟩ := ho.2 j v hv
        have hj : j < F.length := (List.getElem?_eq_some_iff.mp hp).1
        have pl1 := ps1 o (List.mem_of_getElem? hp)
        have hb5 := (off_some hb).2
        have hbG : G b = some (.lst (o.map V.int)) := f6.one (ne_of_none hb5 ng) (s6 _ _ hb5)
        have sHG : Same H G := f6.back (s5.trans s6) (fun a ha => by rw [List.mem_singleton.mp ha]; exact s5.free ng)
        refine ⟨_, rfl, .inl ⟨rfl, _, SqL.of hgG⟩, ?_⟩
        refine ⟨_, rfl, _, rfl, by omega, by omega, fun D nD => ?_⟩
        rw [show ((n : Int)).toNat = n by omega]
        refine lc_sel walk_range (fun _ _ _ h => h) trivial (fun i => decide ((i : Int) ∉ o)) (fun i H y => NewAt G H y (o ++ [(i : Int)])) ?_ nD (by omega) ?_ ?_
        · rintro i H1 H2 y s1 h
          exact h.mono s1
        · rintro k x G1 G2 acc hk g1 hD ⟨rfl, rfl⟩ kk kn hkk hkn
          refine ⟨rfl, _, rfl, _, rfl, b, _, rfl, .inl (SqL.of (g1 _ _ hbG)), rfl, flat_ints _, _, rfl, ?_⟩
          rw [inV_ints]
          by_cases hm : (k : Int) ∈ o
          · rw [decide_eq_true (show (0 + (k : Int)) ∈ o by rw [Int.zero_add]; exact hm)]
            exact iteF (hkn (by simpa using hm) _ (Same.refl _))
          · rw [decide_eq_false (show ¬ (0 + (k : Int)) ∈ o by rw [Int.zero_add]; exact hm)]
            refine iteT ⟨_, rfl, _, rfl, by show 1 ≤ sizeLine; decide, fun z nz => ?_⟩
            refine to_new nz fun G3 g3 hz3 => ?_
            refine ⟨b, z, _, _, rfl, rfl, g3 _ _ (g1 _ _ hbG), hz3, by rw [List.length_map]; show o.length + 1 ≤ sizeLine; have := lt_line (n := o.length + 1) (by omega); omega, fun u nu => ?_⟩
            refine hkk (by simpa using hm) _ _ (g3.trans (Same.new nu)) ⟨u, rfl, ?_, (g1.trans g3).free nu⟩
            rw [off_out (by simp; exact (ne_of_none (g3 _ _ hD) nu).symm), upd_same, snoc_ints]
            show some (HO.lst (_ ++ [V.int (0 + (k : Int))])) = _
            rw [Int.zero_add]
        · intro ys' G1 g1 hD hl' hr
          have e1 : lordOne n o = _ := lordOne_eq n o
          have hle : ys'.length ≤ 5 := by
            rw [hl']
            have := List.length_filter_le (fun i : Nat => decide ((i : Int) ∉ o)) (List.range n)
            rw [List.length_range] at this
            omega
          refine ⟨g, D, _, _, rfl, rfl, g1 _ _ hgG, hD, ?_, ?_⟩
          · have := lt_line (n := zs.length + ys'.length) (by omega); omega
          refine to_put fun G2 f2 hg2 => ?_
          refine ⟨_, _, _, rfl, f6.trans ((Fra.of g1).trans f2), hg2, by rw [List.length_append]; omega, ?_⟩
          rw [lordStep_take hp, e1]
          refine ((hz.mono (off_mono g1)).app ?_).mono (Fra.off f2)
          refine ⟨by rw [hl', List.length_map], fun m y hy => ?_⟩
          obtain ⟨k, h1, h2⟩ := hr m y hy
          refine ⟨_, ?_, h2.into hgG sHG⟩
          rw [List.getElem?_map, h1]; rfl
      · rintro σ G ⟨zs, y4, y5, rfl, f6, hgG, zl, hz⟩
        have e : F.take ys.length = F := List.take_of_length_le (by rw [ho.1]; exact Nat.le_refl _)
        rw [e] at hz
        refine ⟨_, rfl, g, zs, _, _, _, _, rfl, f6.back (s5.trans s6) (fun a ha => by rw [List.mem_singleton.mp ha]; exact s5.free ng), s5.free ng, hgG, ?_⟩
        show News H _ zs (lordStep n (lordIter n i))
        rw [hF]
        exact hz
    · rintro σ H5 ⟨f, ys, x2, x3, x4, x5, rfl, s5, nf, hf5, ho⟩
      rw [show ((n : Int)).toNat = n by omega] at ho
      exact ⟨_, rfl, q f H5 ys nf s5 hf5 ho⟩
theorem sc__law_few : FnScope ["_law_script", "_law_by", "_law_found", "_law_wide", "_law_at", "_law_number", "_law_turn"] ["_law_script", "_law_by"] (defScope s__law_few) := ⟨rfl, rfl, rfl, by decide +kernel, rfl, by decide +kernel, by decide +kernel⟩
def sp_law_few (K : PySem.W.Frag) : Sp := fun vs H Q _ => ∃ (a : Addr) (ns : List Int) (by_ : Int), vs = [.ref a, .int by_] ∧ SqL K H a (ns.map V.int) ∧ Scr ns ∧ 0 ≤ by_ ∧
  ∀ l H' cs R, H l = none → Same H H' → H' l = some (.lst cs) → News H (off [l] H') cs R → GrOk R → R.length ≤ 5 → Q (.ref l) H'
theorem fn__law_few (T : Tx K mg) : Fn P w K mg base "_law_few" 3 (sp_law_few K) := by
  obtain ⟨fd, F⟩ := T.d__law_few
  refine ⟨_, fd, _, F.ok (CX := CX0) sc__law_few (fun vs H Q E h => ?_) (fun cdv A outer s H vs Q E hr h => ?_), T.g__law_few, F.kp, F.bindsN fun _ _ _ _ _ _ us hl => match us, hl with | [_, _], _ => rfl⟩
  · obtain ⟨a, ns, by_, rfl, _⟩ := h; rfl
  · obtain ⟨a, ns, by_, rfl, hs, hb, hby, q⟩ := h
    refine ⟨_, PSs.nox (pss_cons (ps_asg (pe_tup (pa_cons (pe_lst pa_nil) (pa_cons (pe_ix (show IxR _ (rIxT K) from ix_tup) (pe_tup (pa_cons pe_int (pa_cons pe_int (pa_cons pe_int pa_nil)))) (pe_op op_mod (pe_fn (fn__law_value T) (hr.mono (by decide)) (by rfl) (pa_cons (pe_fn (fn__law_cell_at T) (hr.mono (by decide)) (by rfl) (pa_cons (pv 0) (pa_cons (pv 1) pa_nil))) (pa_cons pe_int pa_nil))) pe_int) (fun _ _ => rfl)) pa_nil))) (show PG _ _ (gTup K _ _) from pg_tup rfl (pgs_cons (pg_name (i := 2) sc__law_few.nd rfl (by first | exact Or.inl rfl | exact Or.inr rfl)) (pgs_cons (pg_name (i := 3) sc__law_few.nd rfl (by first | exact Or.inl rfl | exact Or.inr rfl)) pgs_nil))))
      (pss_cons (ps_for PassesOwn.never rfl (pi_range1 (by rfl) T.range (pa_cons (pe_op op_mod (pe_fn (fn__law_value T) (hr.mono (by decide)) (by rfl) (pa_cons (pe_fn (fn__law_cell_at T) (hr.mono (by decide)) (by rfl) (pa_cons (pv 0) (pa_cons (pv 1) pa_nil))) (pa_cons pe_int pa_nil))) pe_int) pa_nil)) (pg_name (i := 4) sc__law_few.nd rfl (by first | exact Or.inl rfl | exact Or.inr rfl))
      (pss_cons (ps_set (i := 5) sc__law_few.nd rfl (by first | exact Or.inl rfl | exact Or.inr rfl) (pe_op op_fdivW (pe_fn (fn__law_value T) (hr.mono (by decide)) (by rfl) (pa_cons (pe_op op_add (pe_fn (fn__law_cell_at T) (hr.mono (by decide)) (by rfl) (pa_cons (pv 0) (pa_cons (pe_op op_add (pv 1) (pe_op op_mod (pv 4) pe_int)) pa_nil))) (pe_op op_mulO pe_int (pv 4))) (pa_cons (pe_op op_add pe_int (pe_op op_mod (pv 4) pe_int)) pa_nil))) pe_int))
      (pss_one (ps_expr (show PE _ _ (tBM K _ _ _ _) from pe_bm PySem.F.plainAttrs_list PySem.F.slot_list_append PySem.F.type_list_append mt_append (pv 2) (pa_cons (pe_callB (show CallR _ _ (rSortedSet w) from cr_sortedSet (by rfl)) (by rfl) T.sorted (by decide +kernel) (pa_cons (pe_callTy (show CallR _ _ (rSetI K w) from cr_setI (by rfl)) (by rfl) T.set (by decide +kernel) (pa_cons (pe_lc (own := [("_law_turn", 6)]) (g := (gName 6)) (tt := tYes) (by rfl) sc__law_few.nd (pi_range1 (by rfl) T.range (pa_cons (pe_op op_add pe_int (pe_op op_mod (pe_op op_fdivW (pv 5) pe_int) pe_int)) pa_nil)) (blkOk_by (by kernel_rfl)) (fun _ _ _ _ _ => (pg_name (i := 6) sc__law_few.nd rfl (by first | exact Or.inl rfl | exact Or.inr rfl))) (fun _ _ _ _ _ => pts_nil) (fun _ _ _ _ _ => (pe_op op_mod (pe_op op_fdivW (pv 5) (pe_op op_add (pe_op op_mulO pe_int (pv 6)) pe_int)) (pv 3)))) pa_nil)) pa_nil)) pa_nil))))))
      (pss_one (ps_ret (pv 2))))), ?_⟩
    refine ⟨Nat.zero_le _, fun l nl => ?_⟩
    refine to_new nl fun H1 s1 hl => ?_
    refine ⟨by show 3 ≤ sizeLine; decide, fun t nt => ?_⟩
    refine to_new nt fun H2 s2 ht => ?_
    have cb : ∀ k : Int, Bits 1048600 (cellAt ns k) := fun k => (hb.cell k).mono (by decide)
    refine ⟨_, rfl, _, rfl, a, ns, by_, rfl, (s1.trans s2).seq hs, hby, _, _, rfl, cb _, by decide, by decide, fun H3 s3 => ?_⟩
    generalize lawValue (cellAt ns by_) 5 = v5
    have v50 := Int.emod_nonneg v5 (b := 3) (by decide)
    have v51 := Int.emod_lt_of_pos v5 (b := 3) (by decide)
    refine ⟨_, _, rfl, rfl, (show (0 : Int) < 3 by decide), t, ([6, 3, 4] : List Int).map V.int, _, _, rfl, rfl, SqT.of (s3 _ _ ht), at_int (ls := [6, 3, 4]) v50 v51, by show 2 ≤ sizeLine; decide, fun t2 nt2 => ?_⟩
    have hw : 3 ≤ ([6, 3, 4] : List Int).getD (v5 % 3).toNat 0 ∧ ([6, 3, 4] : List Int).getD (v5 % 3).toNat 0 ≤ 6 := by
      have e : (v5 % 3).toNat = 0 ∨ (v5 % 3).toNat = 1 ∨ (v5 % 3).toNat = 2 := by omega
      rcases e with e | e | e <;> rw [e] <;> decide
    generalize ([6, 3, 4] : List Int).getD (v5 % 3).toNat 0 = wide at *
    refine to_new nt2 fun H4 s4 ht2 => ?_
    refine ⟨t2, _, rfl, SqT.of ht2, rfl, _, _, rfl, _, _, rfl, rfl, ?_⟩
    have s14 : Same H1 H4 := s2.trans (s3.trans s4)
    have s04 := s1.trans s14
    refine ⟨_, rfl, _, rfl, a, ns, by_, rfl, s04.seq hs, hby, _, _, rfl, cb _, by decide, by decide, fun H5 s5 => ?_⟩
    generalize lawValue (cellAt ns by_) 6 = v6
    have v60 := Int.emod_nonneg v6 (b := 6) (by decide)
    have v61 := Int.emod_lt_of_pos v6 (b := 6) (by decide)
    refine ⟨_, _, rfl, rfl, (show (0 : Int) < 6 by decide), _, rfl, by omega, by omega, for_range (lo := 0) (fun i σ H' => ∃ (cs : List V) (R : List (List Int)) (x4 x5 x6 : Option V), σ = [some (.ref a), some (.int by_), some (.ref l), some (.int wide), x4, x5, x6] ∧
      Same H H' ∧ H' l = some (.lst cs) ∧ News H (off [l] H') cs R ∧ GrOk R ∧ R.length = i) ?_ ?_ ?_⟩
    · exact ⟨[], [], _, _, _, rfl, s04.trans s5, s5 _ _ (s14 _ _ hl), ⟨rfl, fun i v e => by simp at e⟩, (fun r hr => by cases hr), rfl⟩
    · rintro i σ G hi ⟨cs, R, x4, x5, x6, rfl, g, hlG, hN, hG, hRl⟩
      have hcl := hN.1
      have i5 : i < 6 := by omega
      have m0 := Int.emod_nonneg (0 + (i : Int)) (b := 3) (by decide)
      have m50 := Int.emod_nonneg (0 + (i : Int)) (b := 5) (by decide)
      have m51 := Int.emod_lt_of_pos (0 + (i : Int)) (b := 5) (by decide)
      refine ⟨_, rfl, _, rfl, _, rfl, _, _, rfl, rfl, (show (0 : Int) < 3 by decide), _, _, rfl, rfl, a, ns, _, rfl, g.seq hs, by omega, ?_⟩
      have cbk := cb (by_ + (0 + (i : Int)) % 3)
      have cbs := (hb.cell (by_ + (0 + (i : Int)) % 3))
      generalize cellAt ns (by_ + (0 + (i : Int)) % 3) = cell at *
      refine ⟨_, rfl, _, _, rfl, rfl, mulS (.inl (by decide)), _, _, rfl, rfl, _, rfl, _, _, rfl, rfl, (show (0 : Int) < 5 by decide), _, _, rfl, rfl, _, _, rfl, ?_, by omega, by omega, fun G1 g1 => ?_⟩
      · exact (Bits.add cbs (Bits.small (n := 1048576) (by omega) (by decide))).mono (by decide)
      generalize hval : lawValue (cell + 17 * (0 + (i : Int))) (3 + (0 + (i : Int)) % 5) = val
      have hv0 : 0 ≤ val := by rw [← hval]; exact lawValue_nn _ _
      refine ⟨_, _, rfl, rfl, ⟨by decide, by decide +kernel⟩, ?_⟩
      have hn0 : 0 ≤ val / 3 := Int.ediv_nonneg hv0 (by decide)
      have hlG1 := g1 _ _ hlG
      have r0 := Int.emod_nonneg (val / 3 / 7) (b := 3) (by decide)
      have r3 := Int.emod_lt_of_pos (val / 3 / 7) (b := 3) (by decide)
      refine ⟨_, rfl, .inl ⟨rfl, _, SqL.of hlG1⟩, _, rfl, _, _, rfl, rfl, ⟨by decide, by decide +kernel⟩, _, _, rfl, rfl, (show (0 : Int) < 3 by decide), _, _, rfl, rfl, _, rfl, by omega, by omega, fun D nD => ?_⟩
      have hcnt : (1 + val / 3 / 7 % 3).toNat ≤ 3 ∧ 1 ≤ (1 + val / 3 / 7 % 3).toNat := by omega
      refine lc_pure walk_range (fun _ _ _ h => h) trivial (fun j => some (V.int (val / 3 / (5 * (0 + (j : Int)) + 1) % wide))) nD (by omega) ?_ ?_
      · rintro k x G2 G3 hk g2 ⟨rfl, rfl⟩ kk kn hkk _
        have r1 : (0 : Int) < 5 * (0 + (k : Int)) + 1 := by omega
        refine ⟨rfl, yes_of ⟨_, rfl, _, rfl, _, _, rfl, rfl, mulS (.inl (by decide)), _, _, rfl, rfl, _, _, rfl, rfl, ⟨r1, ?_⟩, _, rfl, _, _, rfl, rfl, (show 0 < wide by omega), hkk _ _ rfl (Same.refl _)⟩⟩
        exact Nat.lt_of_le_of_lt (Nat.log2_le_self _) (by omega)
      · intro G2 g2 hD
        obtain ⟨xs, hxs, hxl, hxi⟩ : ∃ xs : List Int, (List.range (1 + val / 3 / 7 % 3).toNat).filterMap (fun j : Nat => some (V.int (val / 3 / (5 * (0 + (j : Int)) + 1) % wide))) = xs.map V.int ∧ xs.length = (1 + val / 3 / 7 % 3).toNat ∧ ∀ x ∈ xs, 0 ≤ x ∧ x < 6 := by
          refine ⟨(List.range (1 + val / 3 / 7 % 3).toNat).map fun j : Nat => val / 3 / (5 * (0 + (j : Int)) + 1) % wide, ?_, by rw [List.length_map, List.length_range], fun x hx => ?_⟩
          · rw [List.map_map]; exact congrFun List.filterMap_eq_map _
          · obtain ⟨j, _, rfl⟩ := List.mem_map.mp hx
            have := Int.emod_nonneg (val / 3 / (5 * (0 + (j : Int)) + 1)) (b := wide) (by omega)
            have := Int.emod_lt_of_pos (val / 3 / (5 * (0 + (j : Int)) + 1)) (b := wide) (by omega)
            omega
        rw [hxs] at hD
        refine ⟨D, xs, rfl, SqL.of hD, by omega, fun u cN hcN nu => ?_⟩
        refine to_new nu fun G3 g3 hu => ?_
        refine ⟨u, _, _, rfl, hu, by omega, fun ks r pw mem len nr => ?_⟩
        refine to_new nr fun G4 g4 hr4 => ?_
        have hk : areSingers ks 6 = true := by
          refine areS_of ?_ (by omega) (fun s hs => hxi s (of_decide_eq_true ((mem s).mp hs))) (rising_of pw)
          cases hxs0 : xs with
          | nil => rw [hxs0] at hxl; simp at hxl; omega
          | cons x0 rx =>
            have : x0 ∈ ks := (mem x0).mpr (decide_eq_true (by rw [hxs0]; simp))
            exact List.length_pos_iff.mpr (List.ne_nil_of_mem this)
        have gg : Same G G4 := g1.trans (g2.trans (g3.trans g4))
        have hlG4 := gg _ _ hlG
        refine ⟨l, _, _, rfl, rfl, hlG4, lt_line (by omega), ?_⟩
        refine to_put fun G5 f5 hl5 => ?_
        have nrl : r ≠ l := (ne_of_none (g3 _ _ (g2 _ _ hlG1)) nr).symm
        refine ⟨cs ++ [.ref r], R ++ [ks], _, _, _, rfl, f5.back (g.trans gg) (fun x hx => by rw [List.mem_singleton.mp hx]; exact nl), hl5, ?_, fun q hq => ?_, by rw [List.length_append, hRl]; rfl⟩
        · refine ((hN.mono (off_mono gg)).app ⟨rfl, fun i v e => ?_⟩).mono (Fra.off f5)
          cases i with
          | succ i => simp at e
          | zero =>
            simp at e
            subst e
            refine ⟨_, rfl, r, rfl, ?_, (g.trans (g1.trans (g2.trans g3))).free nr⟩
            rw [off_out (by simpa using nrl)]
            exact hr4
        · rcases List.mem_append.mp hq with z | z
          · exact hG q z
          · rw [List.mem_singleton.mp z]; exact hk
    · rintro σ G ⟨cs, R, x4, x5, x6, rfl, g, hlG, hN, hG, hRl⟩
      exact ⟨_, rfl, q l G cs R nl g hlG hN hG (by omega)⟩
end
end Song

/-! ### Cut: a named state behind a statement, a named answer behind an expression -/
namespace Song
open PySem L2
def sCut (t : TS) : TS := fun D σ H => ∃ G : L2.St → Hp → Prop, t { D with nx := G } σ H ∧ ∀ σ' H', G σ' H' → D.nx σ' H'
theorem ps_cut {X : Cx} {st : Stmt} {t : TS} (h : PS X st t) : PS X st (sCut t) := by
  refine ⟨fun pins s σ H D I hw => ?_⟩
  obtain ⟨G, h1, h2⟩ := hw
  refine thn (h.run pins s σ H _ I h1) fun f s1 q => ?_
  cases f with
  | next => obtain ⟨σ', H', I2, z⟩ := q; exact ⟨σ', H', I2, h2 _ _ z⟩
  | brk => exact q
  | cont => exact q
  | ret v => exact q
def eCut (t : TE) : TE := fun σ H Q => ∃ G : V → Hp → Prop, t σ H G ∧ ∀ v H', G v H' → Q v H'
theorem pe_cut {X : Cx} {e : Expr} {t : TE} (h : PE X e t) : PE X e (eCut t) := by
  refine ⟨fun pins s σ H Q I hw => ?_⟩
  obtain ⟨G, h1, h2⟩ := hw
  refine thn (h.run pins s σ H _ I h1) fun v s1 ⟨x, H1, I1, r, q⟩ => ?_
  exact ⟨x, H1, I1, r, h2 _ _ q⟩
end Song

/-! ### L08: the law k08 -/
namespace Song
open PySem L2
theorem least_some_all {R : List (List Int)} (hG : GrOk R) {n : Nat} (hn : R.length = n) (h5 : n ≤ 5) (hN : least R ≠ none) {o : List Int} (ho : o ∈ lawOrders n) : ∃ g, least (pick R o) = some g := by
  subst hn
  have pm := (ordOk h5).perm o ho
  exact Option.ne_none_iff_exists'.mp fun z => hN ((least_perm (pick_perm pm) (fun r hr => ((hG.pick (perm_in pm)).rows r hr).1)).mp z)
theorem head_find {α : Type} (m : Int) (p : Int × α) : ∀ zs : List (V × (Int × α)), (zs.map (·.2)).find? (fun p => decide (p.1 = m)) = some p → ∃ (i : Nat) (v : V), zs[i]? = some (v, p) ∧ (zs.filterMap fun z => if z.2.1 = m then some z.1 else none)[0]? = some v
  | [], h => by cases h
  | z :: r, h => by
    by_cases e : z.2.1 = m
    · rw [List.map_cons, List.find?_cons_of_pos (by simpa using e)] at h
      refine ⟨0, z.1, ?_, ?_⟩
      · rw [← Option.some.inj h]; rfl
      · rw [List.filterMap_cons_some (by rw [if_pos e])]; rfl
    · rw [List.map_cons, List.find?_cons_of_neg (by simpa using e)] at h
      obtain ⟨i, v, h1, h2⟩ := head_find m p r h
      refine ⟨i + 1, v, by simpa using h1, ?_⟩
      rw [List.filterMap_cons_none (by rw [if_neg e])]
      exact h2
def prs (R : List (List Int)) (L : List (List Int)) : List (Int × List Int) := L.map fun o => ((least (pick R o)).getD 0, o)
/-- what is due, where a singer sings twice -/
theorem due_some {R : List (List Int)} (hG : GrOk R) (h5 : R.length ≤ 5) (hN : least R ≠ none) : ∃ g o, widestFew R = (some g, o) ∧ o ∈ lawOrders R.length ∧ least (pick R o) = some g ∧ (∀ p ∈ prs R (lawOrders R.length), p.1 ≤ g) ∧ (prs R (lawOrders R.length)).find? (fun p => decide (p.1 = g)) = some (g, o) := by
  have ok := ordOk h5
  have ne : prs R (lawOrders R.length) ≠ [] := by
    intro z
    have := ok.head
    rw [List.map_eq_nil_iff.mp z] at this
    cases this
  have ew : widestFew R = (prs R (lawOrders R.length)).foldl bestStep (none, upto R.length) := by
    unfold widestFew prs
    rw [if_neg hN, ok.eq]
  obtain ⟨g, o, e⟩ : ∃ g o, (prs R (lawOrders R.length)).foldl bestStep (none, upto R.length) = (some g, o) := by
    cases hp : prs R (lawOrders R.length) with
    | nil => exact absurd hp ne
    | cons p r =>
      obtain ⟨g2, o2, e1, _⟩ := best_some r p.1 p.2
      exact ⟨g2, o2, e1⟩
  obtain ⟨h1, h2⟩ := best_all ne e
  have hm := List.mem_of_find?_eq_some h2
  obtain ⟨o', ho', e2⟩ := List.mem_map.mp hm
  obtain ⟨g', hg'⟩ := least_some_all hG rfl h5 hN ho'
  injection e2 with e3 e4
  subst e4
  rw [hg'] at e3
  have e3 : g' = g := e3
  subst e3
  exact ⟨g', o', by rw [ew, e], ho', hg', h1, h2⟩
theorem first_none {R : List (List Int)} (h5 : R.length ≤ 5) : ∃ r, lawOrders R.length = upto R.length :: r := by
  have := (ordOk h5).head
  cases h : lawOrders R.length with
  | nil => rw [h] at this; cases this
  | cons a r =>
    rw [h] at this
    rw [Option.some.inj this]
    exact ⟨r, rfl⟩
def fewD (p : Option Int × List Int) : PyData := .tuple [optD p.1, .list (p.2.map PyData.int)]
theorem fewD_shp (p : Option Int × List Int) : Shp 3 (fewD p) := shp_tuple fun x hx => by
  simp only [List.mem_cons, List.not_mem_nil, or_false] at hx
  rcases hx with rfl | rfl
  · exact (shp_optD _).mono (by decide)
  · exact shp_ints _
theorem fewD_dp {K : PySem.W.Frag} {H : Hp} {t b : Addr} {p : Option Int × List Int} (ht : H t = some (.tup [optV p.1, .ref b])) (hb : H b = some (.lst (p.2.map V.int))) : Dp K H (.ref t) (fewD p) := .tup (SqT.of ht) (.cons (dp_opt _) (.cons (dp_ints (SqL.of hb)) .nil))
def rowsD (R : List (List Int)) : PyData := .list (R.map fun r => .list (r.map PyData.int))
theorem rowsD_shp (R : List (List Int)) : Shp 3 (rowsD R) := shp_list fun x hx => by
  obtain ⟨r, _, rfl⟩ := List.mem_map.mp hx
  exact shp_ints r
theorem dpAll_of {K : PySem.W.Frag} {H : Hp} : ∀ {vs : List V} {ds : List PyData}, vs.length = ds.length → (∀ (i : Nat) v, vs[i]? = some v → ∃ d, ds[i]? = some d ∧ Dp K H v d) → DpAll K H vs ds
  | [], [], _, _ => .nil
  | [], _ :: _, h, _ => by cases h
  | _ :: _, [], h, _ => by cases h
  | v :: vs, d :: ds, h, r => by
    obtain ⟨d', e, q⟩ := r 0 v rfl
    cases e
    exact .cons q (dpAll_of (by simpa using h) fun i v e => r (i + 1) v (by simpa using e))
theorem rowsD_dp {K : PySem.W.Frag} {H : Hp} {a : Addr} {cs : List V} {R : List (List Int)} (ha : SqL K H a cs) (h : Rows K H cs R) : Dp K H (.ref a) (rowsD R) := by
  refine .lst ha (dpAll_of (by rw [h.1, List.length_map]) fun i v e => ?_)
  obtain ⟨b, e2, hb⟩ := h.2 i v e
  have hi : i < R.length := by rw [← h.1]; exact (List.getElem?_eq_some_iff.mp e).1
  refine ⟨_, by rw [List.getElem?_map, List.getElem?_eq_getElem hi]; rfl, ?_⟩
  rw [List.getD_eq_getElem?_getD, List.getElem?_eq_getElem hi] at hb
  rw [e2]
  exact dp_ints hb
def GapAt (R : List (List Int)) (H : Hp) (v : V) (o : List Int) : Prop := ∃ t b, v = .ref t ∧ H t = some (.tup [optV (least (pick R o)), .ref b]) ∧ H b = some (.lst (o.map V.int))
theorem grOk_of {R : List (List Int)} (h : (R.all fun r => areSingers r 6) = true) : GrOk R := fun r hr => List.all_eq_true.mp h r hr
theorem few1 : widestFew [[0], [0], [1]] = (some 1, [0, 2, 1]) := by decide +kernel
theorem few2 : widestFew [] = (none, []) := by decide +kernel
theorem few3 : widestFew [[0, 1], [0, 1]] = (some 0, [0, 1]) := by decide +kernel
theorem few4 : widestFew [[0], [1, 2]] = (none, [0, 1]) := by decide +kernel
section
variable {P : Program} {w : World} {K : PySem.W.Frag} {mg : Str → Option Value} {base : Heap}
theorem row_of {H : Hp} {b : Addr} {r : List Int} {xs : List V} (h : H b = some (.lst xs)) (e : xs = r.map V.int) : RowAt K H (.ref b) r := ⟨b, rfl, by rw [← e]; exact SqL.of h⟩
theorem Rows.cons {H : Hp} {v : V} {r : List Int} {vs : List V} {R : List (List Int)} (q : RowAt K H v r) (h : Rows K H vs R) : Rows K H (v :: vs) (r :: R) := by
  refine ⟨by rw [List.length_cons, List.length_cons, h.1], fun i u e => ?_⟩
  cases i with
  | zero => simp at e; subst e; exact q
  | succ i => exact h.2 i u (by simpa using e)
theorem sc_law : FnScope ["_law_script", "_law_by", "_law_songs", "_law_gaps", "_law_order", "_law_due", "_law_most", "_law_gap", "_law_pair", "_law_handed", "_law_one", "_law_again", "_law_found"] ["_law_script"] (defScope s_law) := ⟨rfl, rfl, rfl, by decide +kernel, rfl, by decide +kernel, by decide +kernel⟩
theorem ok_law0 {fd : FuncData} (T : Tx K mg) (F : FnP K "law" "law" s_law (He.ga K "law") fd) : FnOk P w K mg base CX0 6 (He.ga K "law") fd ["_law_script"] (spLaw K) := by
  refine F.ok (CX := CX0) sc_law (fun vs H Q E h => ?_) (fun cdv A outer s H vs Q E hr h => ?_)
  · obtain ⟨a, ns, rfl, _⟩ := h; rfl
  · obtain ⟨a, ns, rfl, hs, hb, q⟩ := h
    refine ⟨_, PSs.nox (pss_cons (ps_set (i := 0) sc_law.nd rfl (by first | exact Or.inl rfl | exact Or.inr rfl) (pe_slice (show SlR _ (rSlL K) from sl_list) (pv 0) po_none (po_some pe_int)))
      (pss_cons (ps_for PassesOwn.never rfl (pi_range3 (by rfl) T.range (pa_cons pe_int (pa_cons (pe_callB (call_max2 (by rfl)) (by rfl) T.max (by decide +kernel) (pa_cons pe_int (pa_cons (pe_callB (call_min2 (by rfl)) (by rfl) T.min (by decide +kernel) (pa_cons pe_int (pa_cons (pe_callB (show CallR _ _ (rLenQ K) from call_len_seq) (by rfl) T.len (by decide +kernel) (pa_cons (pv 0) pa_nil)) pa_nil))) pa_nil))) (pa_cons pe_int pa_nil)))) (pg_name (i := 1) sc_law.nd rfl (by first | exact Or.inl rfl | exact Or.inr rfl))
      (pss_cons (ps_set (i := 2) sc_law.nd rfl (by first | exact Or.inl rfl | exact Or.inr rfl) (pe_fn (fn__law_few T) (hr.mono (by decide)) (by rfl) (pa_cons (pv 0) (pa_cons (pv 1) pa_nil))))
      (pss_cons (ps_setLc (i := 3) (own := [("_law_order", 4)]) (g := (gName 4)) (tt := tYes) (by rfl) sc_law.nd rfl rfl (sw_true rfl rfl rfl (by decide +kernel)) (show PI _ _ _ (iList K _) from pi_list (pe_fn (fn__law_orders T) (hr.mono (by decide)) (by rfl) (pa_cons (pe_callB (show CallR _ _ (rLenQ K) from call_len_seq) (by rfl) T.len (by decide +kernel) (pa_cons (pv 2) pa_nil)) pa_nil))) (blkOk_by (by kernel_rfl)) (fun _ _ _ _ _ => (pg_name (i := 4) sc_law.nd rfl (by first | exact Or.inl rfl | exact Or.inr rfl))) (fun _ _ _ _ _ => pts_nil) (fun _ _ _ _ _ => (pe_tup (pa_cons (pe_fn (fn__law_least T) (hr.mono (by decide)) (by rfl) (pa_cons (pv 2) (pa_cons (pv 4) pa_nil))) (pa_cons (pv 4) pa_nil)))))
      (pss_cons (ps_set (i := 5) sc_law.nd rfl (by first | exact Or.inl rfl | exact Or.inr rfl) (pe_tup (pa_cons pe_non (pa_cons (pe_listRg (by rfl) (by rfl) T.list (prg_1 (by rfl) T.range (pe_callB (show CallR _ _ (rLenQ K) from call_len_seq) (by rfl) T.len (by decide +kernel) (pa_cons (pv 2) pa_nil)))) pa_nil))))
      (pss_cons (ps_cut (ps_if (pt_cmpR op_notN (pe_ix (show IxR _ (rIxT K) from ix_tup) (pe_ix (show IxR _ (rIxL K) from ix_list) (pv 3) pe_int (fun _ _ => rfl)) pe_int (fun _ _ => rfl)) pe_non (nomark _)) (pss_cons (ps_set (i := 6) sc_law.nd rfl (by first | exact Or.inl rfl | exact Or.inr rfl) (pe_callB (show CallR _ _ (rMax K) from cr_max (by rfl)) (by rfl) T.max (by decide +kernel) (pa_cons (pe_lc (own := [("_law_gap", 7), ("_law_order", 4)]) (g := (gTup K 2 (gCons (gName 7) (gCons (gName 4) gNil)))) (tt := tYes) (by rfl) sc_law.nd (show PI _ _ _ (iList K _) from pi_list (pv 3)) (blkOk_by (by kernel_rfl)) (fun _ _ _ _ _ => (show PG _ _ (gTup K _ _) from pg_tup rfl (pgs_cons (pg_name (i := 7) sc_law.nd rfl (by first | exact Or.inl rfl | exact Or.inr rfl)) (pgs_cons (pg_name (i := 4) sc_law.nd rfl (by first | exact Or.inl rfl | exact Or.inr rfl)) pgs_nil)))) (fun _ _ _ _ _ => pts_nil) (fun _ _ _ _ _ => (pv 7))) pa_nil)))
      (pss_one (ps_set (i := 5) sc_law.nd rfl (by first | exact Or.inl rfl | exact Or.inr rfl) (pe_ix (show IxR _ (rIxL K) from ix_list) (pe_lc (own := [("_law_pair", 8)]) (g := (gName 8)) (tt := _) (by rfl) sc_law.nd (show PI _ _ _ (iList K _) from pi_list (pv 3)) (blkOk_by (by kernel_rfl)) (fun _ _ _ _ _ => (pg_name (i := 8) sc_law.nd rfl (by first | exact Or.inl rfl | exact Or.inr rfl))) (fun _ _ _ _ _ => pts_one (pt_cmpR op_eq (pe_ix (show IxR _ (rIxT K) from ix_tup) (pv 8) pe_int (fun _ _ => rfl)) (pv 6) (nomark _))) (fun _ _ _ _ _ => (pv 8))) pe_int (fun _ _ => rfl))))) pss_nil))
      (pss_cons (ps_setLc (i := 9) (own := [("_law_one", 10)]) (g := (gName 10)) (tt := tYes) (by rfl) sc_law.nd rfl rfl (sw_true rfl rfl rfl (by decide +kernel)) (show PI _ _ _ (iList K _) from pi_list (pv 2)) (blkOk_by (by kernel_rfl)) (fun _ _ _ _ _ => (pg_name (i := 10) sc_law.nd rfl (by first | exact Or.inl rfl | exact Or.inr rfl))) (fun _ _ _ _ _ => pts_nil) (fun _ _ _ _ _ => (pe_callTy (show CallR _ _ (rListO K) from call_list_of) (by rfl) T.list (by decide +kernel) (pa_cons (pv 10) pa_nil))))
      (pss_one (ps_for PassesOwn.never rfl (pi_range1 (by rfl) T.range (pa_cons pe_int pa_nil)) (pg_name (i := 11) sc_law.nd rfl (by first | exact Or.inl rfl | exact Or.inr rfl))
      (pss_cons (ps_set (i := 12) sc_law.nd rfl (by first | exact Or.inl rfl | exact Or.inr rfl) (pe_fn (fn_widest_few T) (hr.mono (by decide)) (by rfl) (pa_cons (pv 9) pa_nil)))
      (pss_cons (ps_if (PW.pt (pw_or (pt_not (pt_val (pe_callB (show CallR _ _ (rIsi K) from call_isi) (by rfl) T.isinstance (by decide +kernel) (pa_cons (pv 12) (pa_cons (pe_gt (n := "tuple") T.tuple (by rfl) (by decide +kernel)) pa_nil))))) (pw_or (pt_cmpR (show OpR _ _ (rNeD K) from op_neD hr.units) (pv 12) (pv 5) (nomark _)) (pw_or1 (pt_cmpR (show OpR _ _ (rNeD K) from op_neD hr.units) (pv 9) (pv 2) (nomark _)))))) (pss_one (ps_ret pe_bl)) pss_nil)
      (pss_cons (ps_if (PW.pt (pw_and (pt_cmpR op_notN (pe_ix (show IxR _ (rIxT K) from ix_tup) (pv 12) pe_int (fun _ _ => rfl)) pe_non (nomark _)) (pw_and1 (PW.pt (pw_or (pt_not (pt_val (pe_fn (fn__law_whole T) (hr.mono (by decide)) (by rfl) (pa_cons (pe_ix (show IxR _ (rIxT K) from ix_tup) (pv 12) pe_int (fun _ _ => rfl)) pa_nil)))) (pw_or1 (pt_cmpR op_ne (pe_fn (fn_least_gap T) (hr.mono (by decide)) (by rfl) (pa_cons (pv 2) (pa_cons (pe_ix (show IxR _ (rIxT K) from ix_tup) (pv 12) pe_int (fun _ _ => rfl)) pa_nil))) (pe_ix (show IxR _ (rIxT K) from ix_tup) (pv 12) pe_int (fun _ _ => rfl)) (nomark _)))))))) (pss_one (ps_ret pe_bl)) pss_nil)
      (pss_one (ps_expr (show PE _ _ (tBM K _ _ _ _) from pe_bm PySem.F.plainAttrs_list PySem.F.slot_list_append PySem.F.type_list_append mt_append (pe_ix (show IxR _ (rIxT K) from ix_tup) (pv 12) pe_int (fun _ _ => rfl)) (pa_cons pe_int pa_nil)))))))))))))))
      (pss_cons (ps_if (PW.pt (pw_or (pt_cmpR (show OpR _ _ (rNeD K) from op_neD hr.units) (pe_fn (fn_widest_few T) (hr.mono (by decide)) (by rfl) (pa_cons (pe_lst (pa_cons (pe_lst (pa_cons pe_int pa_nil)) (pa_cons (pe_lst (pa_cons pe_int pa_nil)) (pa_cons (pe_lst (pa_cons pe_int pa_nil)) pa_nil)))) pa_nil)) (pe_tup (pa_cons pe_int (pa_cons (pe_lst (pa_cons pe_int (pa_cons pe_int (pa_cons pe_int pa_nil)))) pa_nil))) (nomark _)) (pw_or1 (pt_cmpR (show OpR _ _ (rNeD K) from op_neD hr.units) (pe_fn (fn_widest_few T) (hr.mono (by decide)) (by rfl) (pa_cons (pe_lst pa_nil) pa_nil)) (pe_tup (pa_cons pe_non (pa_cons (pe_lst pa_nil) pa_nil))) (nomark _))))) (pss_one (ps_ret pe_bl)) pss_nil)
      (pss_one (ps_ret (pe_and (pe_cmpR (show OpR _ _ (rEqD K) from op_eqD hr.units) (pe_fn (fn_widest_few T) (hr.mono (by decide)) (by rfl) (pa_cons (pe_lst (pa_cons (pe_lst (pa_cons pe_int (pa_cons pe_int pa_nil))) (pa_cons (pe_lst (pa_cons pe_int (pa_cons pe_int pa_nil))) pa_nil))) pa_nil)) (pe_tup (pa_cons pe_int (pa_cons (pe_lst (pa_cons pe_int (pa_cons pe_int pa_nil))) pa_nil))) (nomark _)) (pe_one (pe_cmpR (show OpR _ _ (rEqD K) from op_eqD hr.units) (pe_fn (fn_widest_few T) (hr.mono (by decide)) (by rfl) (pa_cons (pe_lst (pa_cons (pe_lst (pa_cons pe_int pa_nil)) (pa_cons (pe_lst (pa_cons pe_int (pa_cons pe_int pa_nil))) pa_nil))) pa_nil)) (pe_tup (pa_cons pe_non (pa_cons (pe_lst (pa_cons pe_int (pa_cons pe_int pa_nil))) pa_nil))) (nomark _))))))))), ?_⟩
    refine ⟨_, rfl, _, rfl, a, _, rfl, hs, fun z nz => ?_⟩
    rw [cut63 hb.1]
    refine to_new nz fun H1 s1 hz => ?_
    refine ⟨_, rfl, z, _, rfl, .inl (SqL.of hz), _, _, rfl, _, _, rfl, ?_⟩
    generalize hup : (if (if (((ns.map V.int).length : Nat) : Int) < 4 then (((ns.map V.int).length : Nat) : Int) else 4) > 1 then (if (((ns.map V.int).length : Nat) : Int) < 4 then (((ns.map V.int).length : Nat) : Int) else 4) else 1) = up
    have up4 : 1 ≤ up ∧ up ≤ 4 := by
      subst hup
      split <;> split <;> omega
    have rg : RgC 0 up 2 ((up.toNat + 1) / 2) := by
      have e : up = 1 ∨ up = 2 ∨ up = 3 ∨ up = 4 := by omega
      rcases e with rfl | rfl | rfl | rfl <;> exact ⟨by decide, by decide, by decide, by decide⟩
    refine ⟨_, _, _, _, rfl, rg, for_rangeC (fun i σ H' => ∃ x1 x2 x3 x4 x5 x6 x7 x8 x9 x10 x11 x12, σ = [some (.ref z), x1, x2, x3, x4, x5, x6, x7, x8, x9, x10, x11, x12] ∧ Same H1 H') ?_ ?_ ?_⟩
    · exact ⟨_, _, _, _, _, _, _, _, _, _, _, _, rfl, Same.refl _⟩
    · rintro i0 σ H2 hi ⟨x1, x2, x3, x4, x5, x6, x7, x8, x9, x10, x11, x12, rfl, s2⟩
      refine ⟨_, rfl, _, rfl, z, ns, _, rfl, SqL.of (s2 _ _ hz), hb, by omega, fun l H3 cs R nl s3 hl3 hN hG h5 => ?_⟩
      have hR3 : Rows K H3 cs R := (hN.mono (off_le _ _)).rows
      have hcl : cs.length = R.length := hN.1
      refine ⟨_, rfl, l, _, rfl, .inl (SqL.of hl3), R.length, by show [V.int (cs.length : Nat)] = _; rw [hcl], h5, fun o H4 ys no s4 ho4 hO => ?_⟩
      have ok := ordOk h5
      generalize hL : lawOrders R.length = L at *
      have hyl : ys.length = L.length := hO.1
      have few : L.length ≤ 120 := by rw [← hL]; exact ok.few
      refine ⟨o, rfl, ⟨_, SqL.of ho4⟩, fun D nD => lc_all walk_list sqL_mono (SqL.of ho4) (fun i H y => ∃ od, L[i]? = some od ∧ GapAt R H y od) ?_ nD (by omega) ?_ ?_ gname_mono⟩
      · rintro k X1 X2 y s ⟨od, h1, t, b, h2, h3, h4⟩
        exact ⟨od, h1, t, b, h2, s _ _ h3, s _ _ h4⟩
      · rintro k x G1 G2 acc hk g1 hD ⟨rfl, hx⟩ kk hkk
        obtain ⟨od, hod, b, rfl, hb4, _⟩ := hO.2 k x hx
        have hbG := g1 _ _ (off_some hb4).2
        have odm : od ∈ lawOrders R.length := by rw [hL]; exact List.mem_of_getElem? hod
        have pm := ok.perm od odm
        have s3G := s4.trans g1
        refine ⟨rfl, _, rfl, _, rfl, l, b, cs, R, od, rfl, SqL.of (s3G _ _ hl3), hR3.mono s3G, hG, SqL.of hbG, perm_in pm, by rw [pm.length_eq, upto_len]; omega, fun G3 g3 => ?_⟩
        refine ⟨_, rfl, by show 2 ≤ sizeLine; decide, fun t nt => ?_⟩
        refine hkk _ _ (g3.trans (Same.new nt)) ⟨od, hod, t, b, rfl, ?_, ?_⟩
        · rw [off_out (by simp; exact (ne_of_none (g3 _ _ hD) nt).symm)]; exact upd_same
        · rw [off_out (by simp; exact ne_of_none (off_some hb4).2 nD)]
          exact (Same.new nt) _ _ (g3 _ _ hbG)
      · intro gs H5 s5 hD hgl hgs
        rw [hyl] at hgl
        have s35 := s4.trans s5
        refine ⟨_, rfl, l, _, rfl, .inl (SqL.of (s35 _ _ hl3)), _, rfl, ⟨by decide, by decide, by omega, by omega, by omega⟩, fun bd nbd => ?_⟩
        rw [rg0, hcl]
        refine to_new nbd fun H6 s6 hbd => ?_
        refine ⟨by show 2 ≤ sizeLine; decide, fun td ntd => ?_⟩
        refine to_new ntd fun H7 s7 htd => ?_
        have s57 := s6.trans s7
        obtain ⟨rL, eL⟩ := first_none h5
        have gl0 : 0 < gs.length := by rw [hgl, ← hL, eL]; simp
        have hL0 : L[0]? = some (upto R.length) := by rw [← hL, eL]; rfl
        have gat : ∀ (k : Nat) y, gs[k]? = some y → ∃ od, L[k]? = some od ∧ GapAt R H7 y od := fun k y e => by
          obtain ⟨od, h1, t, b, h2, h3, h4⟩ := hgs k y e
          exact ⟨od, h1, t, b, h2, s57 _ _ (off_some h3).2, s57 _ _ (off_some h4).2⟩
        obtain ⟨od0, ho0, t0, b0, e0, ht0, hb0⟩ := gat 0 _ (List.getElem?_eq_getElem gl0)
        rw [hL0] at ho0
        have ho0 : upto R.length = od0 := Option.some.inj ho0
        subst ho0
        rw [pick_upto] at ht0
        have hD7 := s57 _ _ hD
        refine ⟨fun σ' H' => ∃ (td bd : Addr) (x4 x6 x7 x8 : Option V), σ' = [some (.ref z), some (.int (0 + (i0 : Nat) * 2)), some (.ref l), some (.ref D), x4, some (.ref td), x6, x7, x8, x9, x10, x11, x12] ∧ Same H7 H' ∧ H' td = some (.tup [optV (widestFew R).1, .ref bd]) ∧ H' bd = some (.lst ((widestFew R).2.map V.int)), ?_, ?_⟩
        · refine ⟨_, rfl, D, _, _, _, rfl, rfl, SqL.of hD7, atI_nat (j := 0) (List.getElem?_eq_getElem gl0), t0, _, _, _, e0, rfl, SqT.of ht0, atI_nat (j := 0) rfl, rfl, _, rfl, ?_⟩
          rw [optV_non]
          by_cases hN0 : least R = none
          · rw [decide_eq_true hN0]
            have ew : widestFew R = (none, upto R.length) := by unfold widestFew; rw [if_pos hN0]
            exact iteF ⟨td, bd, _, _, _, _, rfl, Same.refl _, by rw [ew]; exact htd, by rw [ew]; exact s7 _ _ hbd⟩
          rw [decide_eq_false hN0]
          obtain ⟨g, og, ew, hog, hgo, gmax, gfind⟩ := due_some hG h5 hN0
          rw [hL] at gmax gfind hog
          refine iteT ⟨_, rfl, D, rfl, ⟨_, SqL.of hD7⟩, fun E nE => lc_pure walk_list sqL_mono (SqL.of hD7) (fun k => L[k]?.map fun o => V.int ((least (pick R o)).getD 0)) nE (by omega) ?_ ?_⟩
          · rintro k x G1 G2 hk g1 ⟨rfl, hx⟩ kk kn hkk _
            obtain ⟨od, hod, t, b, rfl, ht, hb⟩ := gat k x hx
            obtain ⟨go, hgo2⟩ := least_some_all hG rfl h5 hN0 (o := od) (by rw [hL]; exact List.mem_of_getElem? hod)
            rw [hgo2] at ht
            refine ⟨t, _, rfl, SqT.of (g1 _ _ ht), rfl, _, _, rfl, _, _, rfl, rfl, rfl, yes_of ⟨_, rfl, hkk _ _ ?_ (Same.refl _)⟩⟩
            rw [hod]
            show some (V.int ((least (pick R od)).getD 0)) = _
            rw [hgo2]; rfl
          · intro H8 s8 hE
            rw [hgl, range_map] at hE
            have eE : L.map (fun o => V.int ((least (pick R o)).getD 0)) = ((prs R L).map (·.1)).map V.int := by
              unfold prs
              rw [List.map_map, List.map_map]; rfl
            rw [eE] at hE
            have pl : (prs R L).length = L.length := List.length_map _
            refine ⟨E, _, rfl, SqL.of hE, by rw [List.length_map]; omega, fun m hm hmm => ?_⟩
            have em : m = g := by
              obtain ⟨p, hp, rfl⟩ := List.mem_map.mp hm
              have h1 := gmax p hp
              have h2 := hmm g (List.mem_map.mpr ⟨(g, og), List.mem_of_find?_eq_some gfind, rfl⟩)
              omega
            subst em
            have hD8 := s8 _ _ hD7
            have zl : (gs.zip (prs R L)).length = gs.length := by rw [List.length_zip, pl]; omega
            refine ⟨_, rfl, D, rfl, ⟨_, SqL.of hD8⟩, fun W nW => lc_pure walk_list sqL_mono (SqL.of hD8) (fun k => ((gs.zip (prs R L))[k]?).bind fun z => if z.2.1 = m then some z.1 else none) nW (by omega) ?_ ?_⟩
            · rintro k x G1 G2 hk g1 ⟨rfl, hx⟩ kk kn hkk hkn
              obtain ⟨od, hod, t, b, rfl, ht, hb⟩ := gat k x hx
              obtain ⟨go, hgo2⟩ := least_some_all hG rfl h5 hN0 (o := od) (by rw [hL]; exact List.mem_of_getElem? hod)
              rw [hgo2] at ht
              have ez : (gs.zip (prs R L))[k]? = some (.ref t, (go, od)) := by
                rw [List.getElem?_zip_eq_some]
                refine ⟨hx, ?_⟩
                unfold prs
                rw [List.getElem?_map, hod]
                show some ((least (pick R od)).getD 0, od) = _
                rw [hgo2]; rfl
              refine ⟨rfl, _, rfl, t, _, _, _, rfl, rfl, SqT.of (g1 _ _ (s8 _ _ ht)), atI_nat (j := 0) rfl, _, rfl, rfl, _, rfl, ?_⟩
              by_cases e : go = m
              · rw [decide_eq_true (show optV (some go) = V.int m by rw [e]; rfl)]
                refine iteT ⟨_, rfl, hkk _ _ ?_ (Same.refl _)⟩
                rw [ez]
                show (if go = m then _ else _) = _
                rw [if_pos e]
              · rw [decide_eq_false (show ¬ optV (some go) = V.int m from fun z => e (by injection z))]
                refine iteF (hkn _ ?_ (Same.refl _))
                rw [ez]
                show (if go = m then _ else _) = _
                rw [if_neg e]
            · intro H9 s9 hW
              rw [← zl, range_filterMap] at hW
              have e2 : (gs.zip (prs R L)).map (·.2) = prs R L := by
                rw [List.map_snd_zip (by rw [pl]; omega)]
              obtain ⟨k, v, hk1, hk2⟩ := head_find m (m, og) (gs.zip (prs R L)) (by rw [e2]; exact gfind)
              rw [List.getElem?_zip_eq_some] at hk1
              obtain ⟨od, hod, t, b, rfl, ht, hb⟩ := gat k v hk1.1
              have eo : od = og := by
                have := hk1.2
                unfold prs at this
                rw [List.getElem?_map, hod] at this
                injection this with z
                injection z
              subst eo
              rw [hgo] at ht
              refine ⟨W, _, _, _, rfl, rfl, SqL.of hW, atI_nat (j := 0) hk2, t, b, _, _, _, _, rfl, s8.trans s9, ?_, ?_⟩
              · rw [ew]; exact s9 _ _ (s8 _ _ ht)
              · rw [ew]; exact s9 _ _ (s8 _ _ hb)
        · rintro σ' H8 ⟨td, bd, x4, x6, x7, x8, rfl, s8, htd, hbd⟩
          have s38 := s35.trans (s57.trans s8)
          refine ⟨_, rfl, l, rfl, ⟨_, SqL.of (s38 _ _ hl3)⟩, fun E nE => lc_all walk_list sqL_mono (SqL.of (s38 _ _ hl3)) (fun i H y => RowAt K H y (R.getD i [])) (fun _ _ _ _ s h => h.mono s) nE (by omega) ?_ ?_ gname_mono⟩
          · rintro k x G1 G2 acc hk g1 hE ⟨rfl, hx⟩ kk hkk
            obtain ⟨b, rfl, hb⟩ := (hR3.mono (s38.trans g1)).2 k x hx
            refine ⟨rfl, _, rfl, b, _, rfl, .inl hb, fun u nu => hkk _ _ (Same.new nu) ⟨u, rfl, SqL.of ?_⟩⟩
            rw [off_out (by simp; exact (ne_of_none hE nu).symm)]
            exact upd_same
          intro ch H9 s9 hE chl hch
          have hRE : Rows K H9 ch R := ⟨by rw [chl, hcl], fun i v e => (hch i v e).mono (off_le _ _)⟩
          have s39 := s38.trans s9
          refine ⟨2, rfl, by decide, by decide, for_range (lo := 0) (fun i σ H' => ∃ y4 y6 y7 y8 y10 y11 y12 : Option V, σ = [some (.ref z), some (.int (0 + (i0 : Nat) * 2)), some (.ref l), some (.ref D), y4, some (.ref td), y6, y7, y8, some (.ref E), y10, y11, y12] ∧ Same H9 H') ?_ ?_ ?_⟩
          · exact ⟨_, _, _, _, _, _, _, rfl, Same.refl _⟩
          · rintro j σ G hj ⟨y4, y6, y7, y8, y10, y11, y12, rfl, g⟩
            refine ⟨_, rfl, E, ch, R, rfl, SqL.of (g _ _ hE), hRE.mono g, hG, h5, fun t b G1 nt nb g1 ht hb => ?_⟩
            have g91 := g.trans g1
            have s31 := s39.trans g91
            refine ⟨_, rfl, _, _, _, _, _, rfl, .ty _, kd_tup (SqT.of ht), (kit_kd (kd_tup (SqT.of ht))).2.2.2.1, _, rfl, iteF ?_⟩
            refine ⟨_, rfl, _, rfl, _, _, fewD_dp ht hb, fewD_dp ((s9.trans g91) _ _ htd) ((s9.trans g91) _ _ hbd), (fewD_shp _).ok, (fewD_shp _).ok, _, rfl, ?_⟩
            rw [eqv_self (fewD_shp _)]
            refine iteF ⟨_, rfl, _, rfl, _, _, rowsD_dp (SqL.of (g91 _ _ hE)) (hRE.mono g91), rowsD_dp (SqL.of (s31 _ _ hl3)) (hR3.mono s31), (rowsD_shp _).ok, (rowsD_shp _).ok, _, rfl, ?_⟩
            rw [eqv_self (rowsD_shp _)]
            refine iteF ⟨_, rfl, t, _, _, _, rfl, rfl, SqT.of ht, atI_nat (j := 0) rfl, rfl, _, rfl, ?_⟩
            rw [optV_non]
            have wl : (widestFew R).2.length ≤ 100 := by
              by_cases hN0 : least R = none
              · unfold widestFew
                rw [if_pos hN0]
                show (upto _).length ≤ _
                rw [upto_len]; omega
              · obtain ⟨gw, og, ew, hog, _⟩ := due_some hG h5 hN0
                rw [ew]
                show og.length ≤ _
                have := (ok.perm og hog).length_eq
                rw [upto_len] at this
                omega
            have nb9 : H9 b = none := g.free nb
            cases hw1 : (widestFew R).1 with
            | none =>
              refine iteF (iteF ⟨_, rfl, t, _, _, _, rfl, rfl, SqT.of ht, atI_nat (j := 1) rfl, .inl ⟨rfl, _, SqL.of hb⟩, b, _, _, rfl, rfl, hb, lt_line (by rw [List.length_map]; omega), ?_⟩)
              refine to_put fun G2 f2 _ => ?_
              exact ⟨_, _, _, _, _, _, _, rfl, f2.back g91 (fun x hx => by rw [List.mem_singleton.mp hx]; exact nb9)⟩
            | some gw =>
              have hN0 : least R ≠ none := fun z => by
                unfold widestFew at hw1
                rw [if_pos z] at hw1; cases hw1
              obtain ⟨gw2, og, ew, hog, hgo, _⟩ := due_some hG h5 hN0
              rw [ew] at ht hb hw1 wl
              have egw : gw2 = gw := Option.some.inj hw1
              subst egw
              have pm := ok.perm og hog
              refine iteT ⟨_, rfl, t, _, _, _, rfl, rfl, SqT.of ht, atI_nat (j := 0) rfl, _, "int", rfl, kd_int gw2, _, rfl, iteF ?_⟩
              refine ⟨_, rfl, _, rfl, t, _, _, _, rfl, rfl, SqT.of ht, atI_nat (j := 1) rfl, l, b, cs, R, og, rfl, SqL.of (s31 _ _ hl3), hR3.mono s31, hG, by omega, SqL.of hb, pm, fun G2 g2 => ?_⟩
              rw [hgo]
              refine ⟨_, rfl, t, _, _, _, rfl, rfl, SqT.of (g2 _ _ ht), atI_nat (j := 0) rfl, rfl, _, rfl, ?_⟩
              rw [decide_eq_true (show optV (some gw2) = optV (some gw2) from rfl)]
              refine iteF ⟨_, rfl, t, _, _, _, rfl, rfl, SqT.of (g2 _ _ ht), atI_nat (j := 1) rfl, .inl ⟨rfl, _, SqL.of (g2 _ _ hb)⟩, b, _, _, rfl, rfl, g2 _ _ hb, lt_line (by rw [List.length_map]; exact Nat.le_trans wl (by decide)), ?_⟩
              refine to_put fun G3 f3 _ => ?_
              exact ⟨_, _, _, _, _, _, _, rfl, f3.back (g91.trans g2) (fun x hx => by rw [List.mem_singleton.mp hx]; exact nb9)⟩
          · rintro σ G ⟨y4, y6, y7, y8, y10, y11, y12, rfl, g⟩
            exact ⟨_, _, _, _, _, _, _, _, _, _, _, _, rfl, s2.trans (s3.trans (s39.trans g))⟩
    · rintro σ H2 ⟨x1, x2, x3, x4, x5, x6, x7, x8, x9, x10, x11, x12, rfl, s2⟩
      refine ⟨by show 1 ≤ sizeLine; decide, fun a1 na1 => ?_⟩
      refine to_new na1 fun H3 s3 h1 => ?_
      refine ⟨by show 1 ≤ sizeLine; decide, fun a2 na2 => ?_⟩
      refine to_new na2 fun H4 s4 h2 => ?_
      refine ⟨by show 1 ≤ sizeLine; decide, fun a3 na3 => ?_⟩
      refine to_new na3 fun H5 s5 h3 => ?_
      refine ⟨by show 3 ≤ sizeLine; decide, fun a4 na4 => ?_⟩
      refine to_new na4 fun H6 s6 h4 => ?_
      refine ⟨a4, _, [[0], [0], [1]], rfl, SqL.of h4, Rows.cons (row_of (s6 _ _ (s5 _ _ (s4 _ _ h1))) rfl) (Rows.cons (row_of (s6 _ _ (s5 _ _ h2)) rfl) (Rows.cons (row_of (s6 _ _ h3) rfl) Rows.nil)), grOk_of (by decide), by decide, fun t b H7 nt nb s7 ht hb => ?_⟩
      rw [few1] at ht hb
      refine ⟨by show 3 ≤ sizeLine; decide, fun a5 na5 => ?_⟩
      refine to_new na5 fun H8 s8 h5 => ?_
      refine ⟨by show 2 ≤ sizeLine; decide, fun a6 na6 => ?_⟩
      refine to_new na6 fun H9 s9 h6 => ?_
      refine ⟨_, _, fewD_dp (p := (some 1, [0, 2, 1])) (s9 _ _ (s8 _ _ ht)) (s9 _ _ (s8 _ _ hb)), fewD_dp (p := (some 1, [0, 2, 1])) h6 (s9 _ _ h5), (fewD_shp _).ok, (fewD_shp _).ok, _, rfl, ?_⟩
      rw [eqv_self (fewD_shp _)]
      refine iteF ⟨Nat.zero_le _, fun c1 nc1 => ?_⟩
      refine to_new nc1 fun H10 s10 hc1 => ?_
      refine ⟨c1, _, [], rfl, SqL.of hc1, Rows.nil, grOk_of (by decide), by decide, fun t2 b2 H11 nt2 nb2 s11 ht2 hb2 => ?_⟩
      rw [few2] at ht2 hb2
      refine ⟨Nat.zero_le _, fun c2 nc2 => ?_⟩
      refine to_new nc2 fun H12 s12 hc2 => ?_
      refine ⟨by show 2 ≤ sizeLine; decide, fun c3 nc3 => ?_⟩
      refine to_new nc3 fun H13 s13 hc3 => ?_
      refine ⟨_, _, fewD_dp (p := (none, [])) (s13 _ _ (s12 _ _ ht2)) (s13 _ _ (s12 _ _ hb2)), fewD_dp (p := (none, [])) hc3 (s13 _ _ hc2), (fewD_shp _).ok, (fewD_shp _).ok, _, rfl, ?_⟩
      rw [eqv_self (fewD_shp _)]
      refine iteF ?_
      refine ⟨by show 2 ≤ sizeLine; decide, fun d1 nd1 => ?_⟩
      refine to_new nd1 fun I1 i1 hd1 => ?_
      refine ⟨by show 2 ≤ sizeLine; decide, fun d2 nd2 => ?_⟩
      refine to_new nd2 fun I2 i2 hd2 => ?_
      refine ⟨by show 2 ≤ sizeLine; decide, fun d3 nd3 => ?_⟩
      refine to_new nd3 fun I3 i3 hd3 => ?_
      refine ⟨d3, _, [[0, 1], [0, 1]], rfl, SqL.of hd3, Rows.cons (row_of (i3 _ _ (i2 _ _ hd1)) rfl) (Rows.cons (row_of (i3 _ _ hd2) rfl) Rows.nil), grOk_of (by decide), by decide, fun t3 b3 I4 nt3 nb3 i4 ht3 hb3 => ?_⟩
      rw [few3] at ht3 hb3
      refine ⟨by show 2 ≤ sizeLine; decide, fun d4 nd4 => ?_⟩
      refine to_new nd4 fun I5 i5 hd4 => ?_
      refine ⟨by show 2 ≤ sizeLine; decide, fun d5 nd5 => ?_⟩
      refine to_new nd5 fun I6 i6 hd5 => ?_
      refine ⟨_, _, fewD_dp (p := (some 0, [0, 1])) (i6 _ _ (i5 _ _ ht3)) (i6 _ _ (i5 _ _ hb3)), fewD_dp (p := (some 0, [0, 1])) hd5 (i6 _ _ hd4), (fewD_shp _).ok, (fewD_shp _).ok, ?_⟩
      rw [eqv_self (fewD_shp _)]
      refine ⟨_, rfl, iteT ?_⟩
      refine ⟨by show 1 ≤ sizeLine; decide, fun e1 ne1 => ?_⟩
      refine to_new ne1 fun J1 j1 he1 => ?_
      refine ⟨by show 2 ≤ sizeLine; decide, fun e2 ne2 => ?_⟩
      refine to_new ne2 fun J2 j2 he2 => ?_
      refine ⟨by show 2 ≤ sizeLine; decide, fun e3 ne3 => ?_⟩
      refine to_new ne3 fun J3 j3 he3 => ?_
      refine ⟨e3, _, [[0], [1, 2]], rfl, SqL.of he3, Rows.cons (row_of (j3 _ _ (j2 _ _ he1)) rfl) (Rows.cons (row_of (j3 _ _ he2) rfl) Rows.nil), grOk_of (by decide), by decide, fun t4 b4 J4 nt4 nb4 j4 ht4 hb4 => ?_⟩
      rw [few4] at ht4 hb4
      refine ⟨by show 2 ≤ sizeLine; decide, fun e4 ne4 => ?_⟩
      refine to_new ne4 fun J5 j5 he4 => ?_
      refine ⟨by show 2 ≤ sizeLine; decide, fun e5 ne5 => ?_⟩
      refine to_new ne5 fun J6 j6 he5 => ?_
      refine ⟨_, _, fewD_dp (p := (none, [0, 1])) (j6 _ _ (j5 _ _ ht4)) (j6 _ _ (j5 _ _ hb4)), fewD_dp (p := (none, [0, 1])) he5 (j6 _ _ he4), (fewD_shp _).ok, (fewD_shp _).ok, ?_⟩
      rw [eqv_self (fewD_shp _)]
      exact q _
end
end Song

namespace Song
open PySem L2
def fn : List He.DefD := [d_least_between, d_is_whole, d_are_numbers, d_are_singers, d_check_groups, d_least_gap, d_all_orders, d_widest_few, d__law_cell_at, d__law_draw, d__law_value, d__law_whole, d__law_few, d__law_least, d__law_orders, d_law]
def fa : List He.Fa := [.glo "least_between", .glo "TurnError", .glo "BadSongs", .glo "BadOrder", .int "MOST_SINGERS" 6, .int "MOST_OF_SONG" 3, .int "MOST_SONGS" 24, .int "FEW" 5, .glo "is_whole", .glo "are_numbers", .glo "are_singers", .glo "check_groups", .glo "least_gap", .glo "all_orders", .glo "widest_few", .glo "_law_cell_at", .glo "_law_draw", .glo "_law_value", .glo "_law_whole", .glo "_law_few", .glo "_law_least", .glo "_law_orders", .glo "law", .free "len", .free "isinstance", .free "all", .free "any", .free "range", .free "sorted", .free "set", .free "max", .free "min", .free "list", .free "enumerate", .free "zip", .free "int", .free "bool", .free "tuple", .free "str", .free "dict", .free "abs"]
abbrev R : PySem.W.OpenRow := PySem.W.OpenLaw.row PySem.Challenge.rw_songturns_k08_whole_few
def ex : List (PySem.W.Frag → Bool) := []
abbrev hk : PySem.W.Hook := hookY 4 fa fn ex
def ob (s : PySem.W.SharedT) : Bool × He.AlD := obsYG 4 fa fn ex (HandSHeadRun.getT s)
theorem ob_eq (s : PySem.W.SharedT) : ob s = hk.obs s.abs := obsYG_eq (HandSHeadRun.getT_eq s)
def loose0 : List Str := ["__name__", "least_between", "TurnError", "BadSongs", "BadOrder", "MOST_SINGERS", "MOST_OF_SONG", "MOST_SONGS", "FEW", "is_whole", "are_numbers", "are_singers", "check_groups", "least_gap", "all_orders", "widest_few", "_law_cell_at", "_law_draw", "_law_value", "_law_whole", "_law_few", "_law_least", "_law_orders"]
def loose : List Str := loose0
theorem tx_of {K : PySem.W.Frag} {h : Heap} {mg : Str → Option Value} (X : K.In h) (G : h.Ns mainGlobals mg) (c : He.SaysD fa fn K) (c2 : exOk ex K = true) : Tx K mg :=
  ⟨He.glo_ok X G (c.fact 0 (f := .glo "least_between") rfl),
   He.glo_ok X G (c.fact 1 (f := .glo "TurnError") rfl),
   He.glo_ok X G (c.fact 2 (f := .glo "BadSongs") rfl),
   He.glo_ok X G (c.fact 3 (f := .glo "BadOrder") rfl),
   He.int_ok X G (c.fact 4 (f := .int "MOST_SINGERS" 6) rfl),
   He.int_ok X G (c.fact 5 (f := .int "MOST_OF_SONG" 3) rfl),
   He.int_ok X G (c.fact 6 (f := .int "MOST_SONGS" 24) rfl),
   He.int_ok X G (c.fact 7 (f := .int "FEW" 5) rfl),
   He.glo_ok X G (c.fact 8 (f := .glo "is_whole") rfl),
   He.glo_ok X G (c.fact 9 (f := .glo "are_numbers") rfl),
   He.glo_ok X G (c.fact 10 (f := .glo "are_singers") rfl),
   He.glo_ok X G (c.fact 11 (f := .glo "check_groups") rfl),
   He.glo_ok X G (c.fact 12 (f := .glo "least_gap") rfl),
   He.glo_ok X G (c.fact 13 (f := .glo "all_orders") rfl),
   He.glo_ok X G (c.fact 14 (f := .glo "widest_few") rfl),
   He.glo_ok X G (c.fact 15 (f := .glo "_law_cell_at") rfl),
   He.glo_ok X G (c.fact 16 (f := .glo "_law_draw") rfl),
   He.glo_ok X G (c.fact 17 (f := .glo "_law_value") rfl),
   He.glo_ok X G (c.fact 18 (f := .glo "_law_whole") rfl),
   He.glo_ok X G (c.fact 19 (f := .glo "_law_few") rfl),
   He.glo_ok X G (c.fact 20 (f := .glo "_law_least") rfl),
   He.glo_ok X G (c.fact 21 (f := .glo "_law_orders") rfl),
   He.glo_ok X G (c.fact 22 (f := .glo "law") rfl),
   He.free_ok X G (c.fact 23 (f := .free "len") rfl),
   He.free_ok X G (c.fact 24 (f := .free "isinstance") rfl),
   He.free_ok X G (c.fact 25 (f := .free "all") rfl),
   He.free_ok X G (c.fact 26 (f := .free "any") rfl),
   He.free_ok X G (c.fact 27 (f := .free "range") rfl),
   He.free_ok X G (c.fact 28 (f := .free "sorted") rfl),
   He.free_ok X G (c.fact 29 (f := .free "set") rfl),
   He.free_ok X G (c.fact 30 (f := .free "max") rfl),
   He.free_ok X G (c.fact 31 (f := .free "min") rfl),
   He.free_ok X G (c.fact 32 (f := .free "list") rfl),
   He.free_ok X G (c.fact 33 (f := .free "enumerate") rfl),
   He.free_ok X G (c.fact 34 (f := .free "zip") rfl),
   He.free_ok X G (c.fact 35 (f := .free "int") rfl),
   He.free_ok X G (c.fact 36 (f := .free "bool") rfl),
   He.free_ok X G (c.fact 37 (f := .free "tuple") rfl),
   He.free_ok X G (c.fact 38 (f := .free "str") rfl),
   He.free_ok X G (c.fact 39 (f := .free "dict") rfl),
   He.free_ok X G (c.fact 40 (f := .free "abs") rfl),
   c.def_ 0 (d := d_least_between) rfl,
   c.def_ 1 (d := d_is_whole) rfl,
   c.def_ 2 (d := d_are_numbers) rfl,
   c.def_ 3 (d := d_are_singers) rfl,
   c.def_ 4 (d := d_check_groups) rfl,
   c.def_ 5 (d := d_least_gap) rfl,
   c.def_ 6 (d := d_all_orders) rfl,
   c.def_ 7 (d := d_widest_few) rfl,
   c.def_ 8 (d := d__law_cell_at) rfl,
   c.def_ 9 (d := d__law_draw) rfl,
   c.def_ 10 (d := d__law_value) rfl,
   c.def_ 11 (d := d__law_whole) rfl,
   c.def_ 12 (d := d__law_few) rfl,
   c.def_ 13 (d := d__law_least) rfl,
   c.def_ 14 (d := d__law_orders) rfl,
   c.def_ 15 (d := d_law) rfl⟩
theorem run (w : World) : HandSHeadRun.RunEq R (PySem.W.view R.prog [27]) hk ob 6000 loose w := by
  intro os
  kernel_rfl
end Song

/-! ### End: the law's call, the head -/
namespace Song
open PySem L2
/-- the law's end over a head by facts, with the bound on the script's numbers -/
theorem walk_end {l : PySem.W.OpenLaw} {n k : Nat} {q : Program} {loose : List Str} {XP : (Str → Option Value) → Heap → Prop} {YP : World → Heap → Prop} {d : DefRec} {x : Str}
    (hn : l.most = some n) (hn2 : n ≤ sizeLine) (hdf : d.params.defaults = []) (hr : Room k callerA)
    (F : ∀ (w : World) (mg : Str → Option Value) (fa : Addr) (h : Heap), YP w h → h.Ns mainGlobals mg → mg d.name = some (.ref fa) →
      ∃ (K : PySem.W.Frag) (fd : FuncData) (sp : Sp), K.In h ∧ (∀ (s : Shared) (u : Value), BindsTo s fd ⟨[u], []⟩ [(x, u)]) ∧
        (∀ (H : Hp) (a : Addr) (ns : List Int), ns.length ≤ n → (∀ z ∈ ns, Builtin.Int.intBits z ≤ 1048576) → SqL K H a (ns.map V.int) → sp [.ref a] H (fun v _ => v = .bl true) fun _ _ _ => False) ∧
        ∀ base : Heap, K.In base → base.Ns mainGlobals mg → FnOk l.prog w K mg base CX0 k fa fd [x] sp) :
    PySem.W.WalkO q loose XP YP l.row.toRowW d [] (fun f vs => PySem.call f vs) := by
  refine Att.attach_callB hn hdf fun w s₀ s₁ mg mb fa o pm cd doc a vs ns G Y ho hd hcd hmg hobj hi hlen hbits hg => ?_
  obtain ⟨K, fd, sp, KX, hb, hsp, hF⟩ := F w mg fa _ Y G.T.g hmg
  exact law_call KX G.T.g G.T.b G.T.builtins G.T.nolimit hg hobj hi (Nat.le_trans hlen hn2) hr hF hb (fun H _ hS => hsp H a ns hlen hbits hS) fun H e s' z => z
theorem facts {P : Program} {w : World} {K : PySem.W.Frag} {h : Heap} {mg : Str → Option Value} {f : Addr} (X : K.In h) (G : h.Ns mainGlobals mg) (hfa : mg ("law" : Str) = some (.ref f)) (c : He.SaysD fa fn K) (c2 : exOk ex K = true) :
    ∃ fd : FuncData, (∀ (s : Shared) (v : Value), BindsTo s fd ⟨[v], []⟩ [("_law_script", v)]) ∧ ∀ base : Heap, K.In base → base.Ns mainGlobals mg → FnOk P w K mg base CX0 6 f fd ["_law_script"] (spLaw K) := by
  have T := tx_of X G c c2
  obtain ⟨fd, F⟩ := T.d_law
  have e : He.ga K "law" = f := by
    have z := T.g_law.symm.trans hfa
    injection z with z; injection z
  subst e
  have b := FunD.bindsA (ps := ["_law_script"]) F fun _ _ _ _ _ _ us hl => match us, hl with | [_], _ => rfl
  exact ⟨fd, fun s v => b s [v] rfl, fun base _ _ => ok_law0 (P := P) (w := w) (base := base) T F⟩
end Song
open PySem PySem.W PySem.Calls PyProof.Rows
set_option maxHeartbeats 0 in
theorem PySem.Challenge.cw_songturns_k08_whole_few_holds : PySem.Challenge.rw_songturns_k08_whole_few.Holds := by
  w_on; o_law
  refine HandSHeadRun.head_any (r := OpenLaw.row PySem.Challenge.rw_songturns_k08_whole_few) (q := view (OpenLaw.row PySem.Challenge.rw_songturns_k08_whole_few).prog [27]) (H := Song.hk) (ob := Song.ob) (M := 6000) (loose := Song.loose) (d := HandSHeadRun.topDef (OpenLaw.row PySem.Challenge.rw_songturns_k08_whole_few).prog 27) (kwd := []) Song.ob_eq
    (by kernel_rfl) (fun s => by kernel_rfl) Song.run (by kernel_rfl) (by kernel_rfl) (by kernel_rfl) (by rfl) (by first | assumption | decide +kernel) (by decide +kernel) ⟨rfl, rfl, rfl, rfl, rfl, by decide +kernel⟩ ?hw ?hc
  case hw => w_witness2
  case hc =>
    refine Song.walk_end (l := PySem.Challenge.rw_songturns_k08_whole_few) (n := 63) (k := 6) (x := "_law_script") rfl (by decide) (by kernel_rfl) ⟨rfl, by decide, by decide⟩ ?F
    intro w mg fa h Y G hmg0
    obtain ⟨K, KX, c, c2⟩ := Y
    have hmg : mg ("law" : PySem.Str) = some (.ref fa) := by
      have e : (HandSHeadRun.topDef (OpenLaw.row PySem.Challenge.rw_songturns_k08_whole_few).prog 27).name = ("law" : PySem.Str) := by kernel_rfl
      rw [← e]
      exact hmg0
    obtain ⟨fd, hb, hF⟩ := Song.facts (P := (PySem.Challenge.rw_songturns_k08_whole_few).prog) (w := w) KX G hmg c c2
    exact ⟨K, fd, Song.spLaw K, KX, hb, fun H a ns hl hz hS => ⟨a, ns, rfl, hS, ⟨hl, fun z hm => Song.Bits.of_int (hz z hm)⟩, fun _ => rfl⟩, hF⟩
#print axioms PySem.Challenge.cw_songturns_k08_whole_few_holds
