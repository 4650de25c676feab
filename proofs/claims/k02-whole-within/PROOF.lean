import PyProof.Rows.All
import Wide.All
import OpenK.AllK
import Wide.FinOn
import KE.KStateDown
import HandS.ForMost
import HandS.IsInst
import HandS.Defaults
import HandS.Wide
import HandS.SortInts
import HandS.SortRule
import HandS.Strs
import HandS.SetFor
import HandS.Style
import HandS.Conv
import HandS.More
import HandS.Walk
import HandS.Flow
import HandS.Head0
import HandS.Head1
import HandS.Head2
import HandS.HeadEnd
import HandS.HeadHook1
import HandS.HeadHook2
import HandS.EndBits
import HandS.WordsDict
import HandS.Small
import KE.KDictList
import HandS.Deep
import PySem.Challenge.RW_songturns_k02_whole_within
set_option Elab.async false
set_option linter.all false
set_option maxRecDepth 100000
set_option maxHeartbeats 4000000
/-! ### SetL: set(xs) of a list of int numbers, as a value -/
namespace Song
open PySem PySem.Spec PyProof.Rows L2
/-- a set just laid -/
abbrev set0 (w : World) : Obj := ⟨.type "set", none, .set #[] 0 (.fresh 0 0 (!w.params.followText "set-order")), #[]⟩
section
variable {P : Program} {w : World} {A : Around} {E : Value → Shared → Prop} {s : Shared}
set_option maxHeartbeats 8000000 in
theorem set_of_list {l : Addr} {its : Array Value} (ks : List Int) {Q : Value → Shared → Prop} (nh : A.handled = none) (isl : s.heap.IsList l its) (hint : IntsAre its.toList ks) (few : ks.length + 1 < scanBound)
    (q : ∀ (h2 : Heap) (tk c : Nat), SetR w h2 s.heap.objs.size (fun j => decide (j ∈ ks)) c → c ≤ ks.length → (∀ b o, s.heap.get? b = some o → h2.get? b = some o) → Q (.ref s.heap.objs.size) { s with heap := h2, toks := tk }) :
    wpAny (model P w) A (call (.type "set") [.ref l]) Q E s := by
  have lenI : its.size = ks.length := by have z := IntsAre.length hint; rw [Array.length_toList] at z; exact z
  obtain ⟨_, _, mroS⟩ := F.called_set.mro
  have madeS := F.called_set.made
  have subS := F.called_set.sub
  refine wpAny_call (codeAny_of_tree ?_)
  show wpAny _ _ (callAny (.type "set") _) _ _ _
  refine wpAny_pure ⟨Code.quiet_builtin _ (by decide +kernel), codeAny_builtin F.entry_type_call ?_⟩
  rw [Around.under_plain (weight_type_call_type "set" [.ref l] []) rfl]
  have n1 := F.called_set.notType
  have n2 := F.called_set.canCreate
  have n3 := F.typeCall_set_1 (.ref l)
  repeat (any_goals (first | assumption | wp_step))
  refine codeAny_mono (code_set_led1 (.ref l) (E := E) (Q₁ := fun ob s1 => ob = .ref s.heap.objs.size ∧ s1 = { s with heap := s.heap.push (set0 w) }) ⟨rfl, rfl⟩) fun res s1 hres => ?_
  cases res with
  | error e => exact hres
  | ok fl =>
    cases fl with
    | ret ob =>
      obtain ⟨rfl, rfl⟩ := hres
      have atS : (s.heap.push (set0 w)).get? s.heap.objs.size = some (set0 w) := Heap.get?_push_size _ rfl
      have tyS : Shared.TypeIs { s with heap := s.heap.push (set0 w) } (.ref s.heap.objs.size) "set" := ⟨_, atS, rfl⟩
      have i1 := F.called_set.init.lookup
      have i2 := F.called_set.init.bind (.ref s.heap.objs.size)
      repeat (any_goals (first | assumption | wp_step))
      refine codeAny_mono (codeAny_call_builtin (R := wants (fun r s2 => r = .none ∧ ∃ h2 tk c, s2 = { s with heap := h2, toks := tk } ∧ SetR w h2 s.heap.objs.size (fun j => decide (j ∈ ks)) c ∧ c ≤ ks.length ∧
        (∀ b o, s.heap.get? b = some o → h2.get? b = some o)) E) F.called_set.init.plain F.entry_set_init (check_set_init_1 tyS ?_)) fun r2 s2 hr2 => ?_
      · obtain ⟨⟨oc, od, odt, osl⟩, ho, c1, nl, c2⟩ := isl
        simp only at c1 c2
        subst c1; subst c2
        have ho1 : (s.heap.push (set0 w)).get? l = some ⟨.type "list", od, .seq its nl, osl⟩ := Heap.get?_push_of_some _ ho
        have u1 := F.sub_list_set
        have u2 := F.sub_list_frozenset
        have u3 : (Value.type "list" == Value.type "dict") = false := by decide
        have isl1 : (s.heap.push (set0 w)).IsList l its := ⟨_, ho1, rfl, nl, rfl⟩
        unfold Builtin.«set.__init__» noKeywords Builtin.Frozenset.updateFrom
        generalize keepI : pyIter = PI
        wp_walk
        subst keepI
        refine wpAny_pyIter_list isl1 ?_
        refine wpAny_bind (wpAny_runValue ?_)
        have lt : l < s.heap.objs.size := Heap.lt_size ho
        have nh3 : A.in1.in1.in1.handled = none := by simp [nh]
        have ne1 : l ≠ (s.heap.push (set0 w)).objs.size := by rw [Heap.size_push]; exact Nat.ne_of_lt (Nat.lt_succ_of_lt lt)
        have ne2 : s.heap.objs.size ∉ [(s.heap.push (set0 w)).objs.size, l] := by
          rw [Heap.size_push]
          simp only [List.mem_cons, List.not_mem_nil, or_false, not_or]
          exact And.intro (Nat.ne_of_lt (Nat.lt_succ_self _)) (Nat.ne_of_gt lt)
        have vals : ∀ (i : Nat) (v : Value), its[i]? = some v → ∃ k t, ks[i]? = some k ∧ v = .int k t := fun i v hv => by
          have lti : i < ks.length := by rw [← lenI]; exact (Array.getElem?_eq_some_iff.mp hv).1
          obtain ⟨t, e⟩ := PyProof.Rows.IntsAre.int_at hint i v (by rw [Array.getElem?_toList]; exact hv)
          refine ⟨ks[i], t, List.getElem?_eq_getElem lti, ?_⟩
          rw [e, List.getD_eq_getElem?_getD, List.getElem?_eq_getElem lti] <;> rfl
        refine set_update_ints ((Walks.list nh3 _ l ne1 its).toS) s.heap.objs.size ne2 ks lenI few vals (its.size - 0) 0 _ (by omega) (Nat.zero_le _)
          ⟨⟨_, Heap.get?_push_size _ rfl, rfl, rfl⟩, (isl1.push _)⟩ ⟨0, Nat.le_refl 0, setR_new_at (Heap.get?_push_of_some _ atS)⟩ ?_
        intro s3 c3 mv hc3 hS3
        obtain ⟨h3, g3, d3, t3, o3⟩ := s3
        have eg : g3 = s.gens := mv.gens
        have ed : d3 = s.drawn := mv.drawn
        have eo : o3 = s.os := mv.os
        subst eg; subst ed; subst eo
        show wpAny _ _ _ _ _ _
        refine wpAny_pure ?_
        show wpAny _ _ (ret Value.none) _ _ _
        rw [lenI] at hc3
        refine wpAny_pure ⟨rfl, h3, t3, c3, rfl, hS3, hc3, fun b o e => ?_⟩
        have b0 : b < s.heap.objs.size := Heap.lt_size e
        refine mv.heap b o ?_ (Heap.get?_push_of_some _ (Heap.get?_push_of_some _ e))
        rw [Heap.size_push]
        simp only [List.mem_cons, List.not_mem_nil, or_false, not_or]
        exact And.intro (Nat.ne_of_lt b0) (Nat.ne_of_lt (Nat.lt_succ_of_lt b0))
      · cases r2 with
        | error e => exact hr2
        | ok f2 =>
          cases f2 with
          | ret r =>
            obtain ⟨rfl, h2, tk, c, rfl, hS, hc, hk⟩ := hr2
            repeat (any_goals (first | assumption | wp_step))
            exact q _ _ _ hS hc hk
          | _ => exact hr2.elim
    | _ => exact hres.elim
end
/-- set(xs), xs a list of int numbers: who is in, and no more than there were -/
def rSetI (K : PySem.W.Frag) (w : World) : List V → Hp → VK → Prop := fun xs H Q => ∃ (l : Addr) (ks : List Int), xs = [V.ref l] ∧ SqL K H l (ks.map V.int) ∧ ks.length ≤ 1000 ∧
  ∀ (a : Addr) (c : Nat), c ≤ ks.length → H a = none → Q (.ref a) (upd H a (SetO w a (fun j => decide (j ∈ ks)) c))
theorem cr_setI {X : Cx} (hc : X.calm = true) : CallR X (.type "set") (rSetI X.K X.w) := by
  intro pins s σ H xs us Q I r h
  obtain ⟨l, ks, rfl, hs, hl, q⟩ := h
  obtain ⟨its, rv, ⟨o, n, ho, c1, c2, c3⟩, hlen⟩ := I.list hs
  have hint : IntsAre its ks := ints_of_vals rv
  have isl : s.heap.IsList l its.toArray := ⟨o, ho, c1, n, c3⟩
  rw [Vals.ref1 r]
  refine set_of_list ks (I.ok.hd hc) isl (by simpa using hint) (by unfold scanBound; omega) fun h2 tk c hS hcl hk => ?_
  have hn : H s.heap.objs.size = none := I.hok.fresh (Nat.le_refl _)
  obtain ⟨o2, es, ep, st, ho2, rest⟩ := id hS
  refine ⟨.ref s.heap.objs.size, _, I.laid (t' := tk) (fun b u e => hk b u e) (Nat.le_refl _) ?_, rfl, q _ c hcl hn⟩
  exact setO_new hS
end Song

/-! ### Lay: what every def's proof leans on (own layer over the hand layer) -/
namespace Song
open PySem L2

/-! #### heaps -/
theorem Same.new {H : Hp} {p : Addr} {o : HO} (n : H p = none) : Same H (upd H p o) := fun b o' e => by
  rw [upd_ne (ne_of_none e n)]
  exact e
/-- a new object: the heap behind it is only known to extend the one ahead -/
theorem new_all {H : Hp} {o : HO} {Q : Addr → Hp → Prop} (h : ∀ p H', H p = none → Same H H' → H' p = some o → Q p H') : ∀ p, H p = none → Q p (upd H p o) :=
  fun p n => h p _ n (Same.new n) upd_same
/-- behind a new object: the heap is only known to extend the one ahead -/
@[elab_as_elim] theorem to_new {H : Hp} {p : Addr} {o : HO} {Q : Hp → Prop} (n : H p = none) (h : ∀ H', Same H H' → H' p = some o → Q H') : Q (upd H p o) := h _ (Same.new n) upd_same
/-- a heap without some addresses -/
def off (S : List Addr) (H : Hp) : Hp := fun a => if a ∈ S then none else H a
theorem off_in {S : List Addr} {H : Hp} {a : Addr} (h : a ∈ S) : off S H a = none := by unfold off; rw [if_pos h]
theorem off_out {S : List Addr} {H : Hp} {a : Addr} (h : a ∉ S) : off S H a = H a := by unfold off; rw [if_neg h]
theorem off_some {S : List Addr} {H : Hp} {a : Addr} {o : HO} (h : off S H a = some o) : a ∉ S ∧ H a = some o := by
  by_cases q : a ∈ S
  · rw [off_in q] at h; cases h
  · rw [off_out q] at h; exact ⟨q, h⟩
theorem off_le (S : List Addr) (H : Hp) : Same (off S H) H := fun _ _ h => (off_some h).2
theorem off_mono {S : List Addr} {H H' : Hp} (s : Same H H') : Same (off S H) (off S H') := fun b o h => by
  obtain ⟨q, h⟩ := off_some h
  rw [off_out q]; exact s _ _ h
/-- all but the addresses S stays -/
def Fra (S : List Addr) (H H' : Hp) : Prop := ∀ a o, a ∉ S → H a = some o → H' a = some o
theorem Fra.refl (S : List Addr) (H : Hp) : Fra S H H := fun _ _ _ h => h
theorem Fra.of {S : List Addr} {H H' : Hp} (s : Same H H') : Fra S H H' := fun a o _ h => s a o h
theorem Fra.trans {S : List Addr} {H H1 H2 : Hp} (a : Fra S H H1) (b : Fra S H1 H2) : Fra S H H2 := fun c o n h => b c o n (a c o n h)
theorem Fra.mono {S S' : List Addr} {H H' : Hp} (f : Fra S H H') (h : ∀ a ∈ S, a ∈ S') : Fra S' H H' := fun a o n e => f a o (fun q => n (h a q)) e
theorem Fra.put {S : List Addr} {H : Hp} {a : Addr} {o : HO} (h : a ∈ S) : Fra S H (upd H a o) := fun b o' n e => by
  have q : b ≠ a := fun q => n (by rw [q]; exact h)
  rw [upd_ne q]; exact e
@[elab_as_elim] theorem to_put {H : Hp} {p : Addr} {o : HO} {Q : Hp → Prop} (h : ∀ H', Fra [p] H H' → H' p = some o → Q H') : Q (upd H p o) := h _ (Fra.put (by simp)) upd_same
theorem Fra.one {H H' : Hp} {p a : Addr} {o : HO} (f : Fra [p] H H') (n : a ≠ p) (h : H a = some o) : H' a = some o := f a o (by simpa using n) h
theorem Fra.off {S : List Addr} {H H' : Hp} (f : Fra S H H') : Same (off S H) (off S H') := fun b o h => by
  obtain ⟨q, h⟩ := off_some h
  rw [off_out q]; exact f _ _ q h
theorem Fra.same {H H' : Hp} (f : Fra [] H H') : Same H H' := fun b o h => f b o (by simp) h
/-- what is new to H stays outside of what H tells -/
theorem Fra.back {H0 H H' : Hp} {S : List Addr} (s : Same H0 H) (f : Fra S H H') (h : ∀ a ∈ S, H0 a = none) : Same H0 H' := fun b o e =>
  f b o (fun q => by rw [h b q] at e; cases e) (s b o e)
theorem Same.sqT {K : PySem.W.Frag} {H H' : Hp} {a : Addr} {xs : List V} (e : Same H H') (h : SqT K H a xs) : SqT K H' a xs := by
  rcases h with (h | ⟨o, h⟩) | h
  · exact .inl (.inl (e _ _ h))
  · exact .inl (.inr ⟨o, e _ _ h⟩)
  · exact .inr h
mutual
theorem dp_mono {K : PySem.W.Frag} {H H' : Hp} (e : Same H H') : ∀ {v : V} {d : PyData}, Dp K H v d → Dp K H' v d
  | _, _, .non => .non
  | _, _, .bl b => .bl b
  | _, _, .int i => .int i
  | _, _, .str x => .str x
  | _, _, .lst s a => .lst (e.seq s) (dpAll_mono e a)
  | _, _, .tup s a => .tup (Same.sqT e s) (dpAll_mono e a)
theorem dpAll_mono {K : PySem.W.Frag} {H H' : Hp} (e : Same H H') : ∀ {vs : List V} {ds : List PyData}, DpAll K H vs ds → DpAll K H' vs ds
  | _, _, .nil => .nil
  | _, _, .cons d a => .cons (dp_mono e d) (dpAll_mono e a)
end
theorem dpAll_app {K : PySem.W.Frag} {H : Hp} : ∀ {vs ws : List V} {ds es : List PyData}, DpAll K H vs ds → DpAll K H ws es → DpAll K H (vs ++ ws) (ds ++ es)
  | _, _, _, _, .nil, h => h
  | _, _, _, _, .cons d a, h => .cons d (dpAll_app a h)
theorem dpAll_len {K : PySem.W.Frag} {H : Hp} : ∀ {vs : List V} {ds : List PyData}, DpAll K H vs ds → vs.length = ds.length
  | _, _, .nil => rfl
  | _, _, .cons _ a => by simp [dpAll_len a]
theorem dpAll_get {K : PySem.W.Frag} {H : Hp} : ∀ {vs : List V} {ds : List PyData} {i : Nat} {v : V}, DpAll K H vs ds → vs[i]? = some v → ∃ d, ds[i]? = some d ∧ Dp K H v d
  | _, _, _, _, .nil, e => by simp at e
  | _, _, 0, _, .cons d a, e => by
    simp at e; subst e; exact ⟨_, rfl, d⟩
  | _, _, i + 1, v, .cons d a, e => by
    obtain ⟨d', h1, h2⟩ := dpAll_get (i := i) (v := v) a (by simpa using e)
    exact ⟨d', by simpa using h1, h2⟩
theorem dpAll_ints {K : PySem.W.Frag} {H : Hp} : ∀ (ns : List Int), DpAll K H (ns.map V.int) (ns.map PyData.int)
  | [] => .nil
  | n :: r => .cons (.int n) (dpAll_ints r)
theorem dp_ints {K : PySem.W.Frag} {H : Hp} {a : Addr} {ns : List Int} (h : SqL K H a (ns.map V.int)) : Dp K H (.ref a) (.list (ns.map PyData.int)) := .lst h (dpAll_ints ns)
theorem ints_inj : ∀ {ns ms : List Int}, ns.map V.int = ms.map V.int → ns = ms
  | [], [], _ => rfl
  | [], _ :: _, h => by cases h
  | _ :: _, [], h => by cases h
  | a :: r, b :: s, h => by
    simp only [List.map_cons, List.cons.injEq, V.int.injEq] at h
    rw [h.1, ints_inj h.2]

/-! #### calls of the program's own defs, by one word each -/
section
variable {P : Program} {w : World} {K : PySem.W.Frag} {mg : Str → Option Value} {base : Heap}
structure Fn (P : Program) (w : World) (K : PySem.W.Frag) (mg : Str → Option Value) (base : Heap) (x : Str) (k : Nat) (sp : Sp) : Prop where
  ex : ∃ (f : Addr) (fd : FuncData) (ps : List Str), FnOk P w K mg base CX0 k f fd ps sp ∧ mg x = some (.ref f) ∧ PySem.W.keepIn K (.ref f) = true ∧ Binds K fd ps []
structure Me (P : Program) (w : World) (K : PySem.W.Frag) (mg : Str → Option Value) (base : Heap) (C : Addr) (m : Str) (k : Nat) (sp : Sp) : Prop where
  ex : ∃ (f : Addr) (fd : FuncData) (ps : List Str), FnOk P w K mg base CX0 k f fd ps sp ∧ Cls K C ∧ Meth K C m f ∧ Binds K fd ps []
structure Mke (P : Program) (w : World) (K : PySem.W.Frag) (mg : Str → Option Value) (base : Heap) (x : Str) (C : Addr) (k : Nat) (sp : Sp) : Prop where
  ex : ∃ (f : Addr) (fd : FuncData) (ps : List Str), FnOk P w K mg base CX0 k f fd ps sp ∧ Mk K C f ∧ mg x = some (.ref C) ∧ Binds K fd ps []
abbrev FnP (K : PySem.W.Frag) (x q : Str) (st : Stmt) (f : Addr) (fd : FuncData) : Prop := FunD K x q (defArgs st) (defBody st) (defScope st) [] [] f fd
end
section
variable {X : Cx} {x m : Str} {k : Nat} {sp : Sp} {e o : Expr} {es : List Expr} {t : TA} {to : TE} {C : Addr} {p apos pos : Pos}
theorem pe_fn (F : Fn X.prog X.w X.K X.mg X.base x k sp) (hr : Room k X.A) (hg : Gl X x) (ha : PA X (e :: es) t)
    (hdb : (x == ("__debug__" : Str)) = false := by decide) (he : starEach (e :: es) X.env = (false, eval e X.env) :: starEach es X.env := by rfl) (hpl : (backTo pos (starEach es X.env)).any (·.1) = false := by rfl) :
    PE X (.Call (.Name x p) (e :: es) [] pos) (tCall sp [] E0 t) := by
  obtain ⟨f, fd, ps, h1, h2, h3, h4⟩ := F.ex
  exact pe_call h1 hr hg h2 h3 h4 .nil pass0 ha hdb he hpl
theorem pe_fn0 (F : Fn X.prog X.w X.K X.mg X.base x k sp) (hr : Room k X.A) (hg : Gl X x) (hdb : (x == ("__debug__" : Str)) = false := by decide) :
    PE X (.Call (.Name x p) [] [] pos) (tCall sp [] E0 tNil) := by
  obtain ⟨f, fd, ps, h1, h2, h3, h4⟩ := F.ex
  exact pe_call0 h1 hr hg h2 h3 h4 .nil pass0 hdb
theorem pe_me {pl : Sem Bool} (F : Me X.prog X.w X.K X.mg X.base C m k sp) (hr : Room k X.A) (ho : PE X o to) (ha : PA X (e :: es) t)
    (hst : starEach (e :: es) X.env = (false, eval e X.env) :: starEach es X.env := by rfl) (hpl : (backTo pos (starEach es X.env)).any (·.1) = false := by rfl)
    (ht : eval (.Call (.Attribute o m apos) (e :: es) [] pos) X.env = (do
      let ov ← eval o X.env
      standAt apos.atName
      let (f, first) ← holding [ov] (getMethod ov m pl)
      callWith pos f first (backTo pos (starEach (e :: es) X.env)) (backToKw pos (keywordEach [] X.env))) := by rfl) :
    PE X (.Call (.Attribute o m apos) (e :: es) [] pos) (tMeth C m sp [] E0 to t) := by
  obtain ⟨f, fd, ps, h1, h2, h3, h4⟩ := F.ex
  exact pe_meth ho h2 h3 h1 hr h4 .nil pass0 ha hst hpl ht
theorem pe_me0 {pl : Sem Bool} (F : Me X.prog X.w X.K X.mg X.base C m k sp) (hr : Room k X.A) (ho : PE X o to)
    (ht : eval (.Call (.Attribute o m apos) [] [] pos) X.env = (do
      let ov ← eval o X.env
      standAt apos.atName
      let (f, first) ← holding [ov] (getMethod ov m pl)
      callWith pos f first (backTo pos (starEach [] X.env)) (backToKw pos (keywordEach [] X.env))) := by rfl) :
    PE X (.Call (.Attribute o m apos) [] [] pos) (tMeth C m sp [] E0 to tNil) := by
  obtain ⟨f, fd, ps, h1, h2, h3, h4⟩ := F.ex
  exact pe_meth0 ho h2 h3 h1 hr h4 .nil pass0 ht
theorem pe_mk (F : Mke X.prog X.w X.K X.mg X.base x C k sp) (hr : Room (k + 1) X.A) (hg : Gl X x) (ha : PA X (e :: es) t)
    (hdb : (x == ("__debug__" : Str)) = false := by decide) (he : starEach (e :: es) X.env = (false, eval e X.env) :: starEach es X.env := by rfl) (hpl : (backTo pos (starEach es X.env)).any (·.1) = false := by rfl) :
    PE X (.Call (.Name x p) (e :: es) [] pos) (tMake C sp [] E0 t) := by
  obtain ⟨f, fd, ps, h1, h2, h3, h4⟩ := F.ex
  exact pe_make h2 h1 hr hg h3 h4 .nil pass0 ha hdb he hpl
theorem pe_gi {i : Int} (h : ∃ t, X.mg x = some (.int i t)) (hg : Gl X x) (hd : (x == ("__debug__" : Str)) = false := by decide) : PE X (.Name x pos) (tC (.int i)) := by
  obtain ⟨t, h⟩ := h
  exact pe_glob hg h ⟨t, rfl⟩ hd
theorem pe_gc (h : X.mg x = some (.ref C)) (hg : Gl X x) (hd : (x == ("__debug__" : Str)) = false := by decide) : PE X (.Name x pos) (tC (.ref C)) := pe_glob hg h rfl hd
theorem pe_gt {n : String} (h : X.mg x = none) (hg : Gl X x) (hv : bootBuiltins x = some (.type n)) (hn : x ≠ "__name__" := by decide) (hd : (x == ("__debug__" : Str)) = false := by decide) : PE X (.Name x pos) (tC (.ty n)) := pe_bltn hg h hv rfl hn hd
/-- * of ints, by what the model itself asks -/
theorem op_mulO : OpR X (binaryOp .Mult) (rI IntMulOk fun i j => .int (i * j)) := opI fun _ _ _ _ _ _ _ hc q => PyProof.Rows.mul_int q hc
end

/-- readings of rules that the kit states without a name -/
def rLenQ (K : PySem.W.Frag) : List V → Hp → VK → Prop := fun xs H Q => ∃ p ys, xs = [.ref p] ∧ (SqL K H p ys ∨ SqT K H p ys) ∧ Q (.int ys.length) H
def rListO (K : PySem.W.Frag) : List V → Hp → VK → Prop := fun xs H Q => ∃ p ys, xs = [.ref p] ∧ (SqL K H p ys ∨ SqT K H p ys) ∧ ∀ l, H l = none → Q (.ref l) (upd H l (.lst ys))
def rTupO (K : PySem.W.Frag) : List V → Hp → VK → Prop := fun xs H Q => ∃ p ys, xs = [.ref p] ∧ ((SqL K H p ys ∧ ∀ l, H l = none → Q (.ref l) (upd H l (.tup ys))) ∨ (SqT K H p ys ∧ Q (.ref p) H))
/-! #### comprehensions -/
section
variable {J : It} {n : Nat} {G : Hp → Prop} {Y : Nat → Hp → V → Hp → Prop} {g : TG} {tt : TT} {te : TE} {vs : List Nat} {σ : St} {H1 : Hp} {D : Addr} {Qd : Hp → Prop}
/-- what a comprehension over a walk asks -/
abbrev LcAsks (J : It) (g : TG) (tt : TT) (te : TE) (vs : List Nat) (σ : St) (H1 : Hp) (D : Addr) (Qd : Hp → Prop) : Prop :=
  ∃ W : Nat → Nat → Hp → Prop, (∃ m, W 0 m (upd H1 D (.lst []))) ∧ ∀ i m H, W i m H →
      (J.stop i H ∧ Qd H) ∨ (J.go i H ∧ ∃ Nx : Hp → Prop, (∀ H', Nx H' → ∃ m', m' < m ∧ W (i + 1) m' H') ∧ ∀ x H', J.yld i H x H' → g x (wipe σ vs) H' fun σ2 H2 => wipe σ2 vs = wipe σ vs ∧ tt σ2 H2 fun b H3 =>
        if b = true then te σ2 H3 fun y H4 => ∃ acc, H4 D = some (.lst acc) ∧ acc.length < sizeLine ∧ Nx (upd H4 D (.lst (acc ++ [y]))) else Nx H3)
theorem off_one {H : Hp} {D : Addr} {o : HO} : off [D] (upd H D o) = off [D] H := by
  funext b
  by_cases q : b ∈ [D]
  · rw [off_in q, off_in q]
  · rw [off_out q, off_out q, upd_ne (fun z => q (by simp [z]))]
theorem same_put {H1 H : Hp} {D : Addr} {o : HO} (n : H1 D = none) (s : Same H1 H) : Same H1 (upd H D o) := fun b o e => by
  rw [upd_ne (ne_of_none e n)]
  exact s _ _ e
theorem yes_of {te : TE} {σ : St} {H : Hp} {k : VK} {kn : Hp → Prop} (h : te σ H k) : tYes σ H (fun b H3 => if b = true then te σ H3 k else kn H3) := by
  unfold tYes
  dsimp only
  rw [if_pos rfl]
  exact h
/-- no test: each element's value is told by R (monotone), whatever else is laid meanwhile -/
theorem lc_all (w : Walk J n G Y) (hGm : ∀ H H', Same H H' → G H → G H') (hG : G H1) (R : Nat → Hp → V → Prop) (hR : ∀ i H H' y, Same H H' → R i H y → R i H' y) (nD : H1 D = none) (hlen : n ≤ 1000)
    (hs : ∀ (i : Nat) x H H' acc, i < n → Same H1 H → H D = some (.lst acc) → Y i H x H' → ∀ k : V → Hp → Prop, (∀ y H2, Same H H2 → R i (off [D] H2) y → k y H2) →
      g x (wipe σ vs) H' fun σ2 H2 => wipe σ2 vs = wipe σ vs ∧ te σ2 H2 k)
    (hd : ∀ ys H, Same H1 H → H D = some (.lst ys) → ys.length = n → (∀ (i : Nat) y, ys[i]? = some y → R i (off [D] H) y) → Qd H)
    (hg : ∀ x σ H Q Q', (∀ σ2 H2, Q σ2 H2 → Q' σ2 H2) → g x σ H Q → g x σ H Q') : LcAsks J g tYes te vs σ H1 D Qd := by
  refine lc_it w (fun i H => Same H1 H ∧ ∃ ys, H D = some (.lst ys) ∧ ys.length = i ∧ ∀ (j : Nat) y, ys[j]? = some y → R j (off [D] H) y) ?_ ?_ ?_ ?_
  · exact ⟨Same.new nD, [], upd_same, rfl, fun j y e => by simp at e⟩
  · intro i H _ h
    exact hGm _ _ h.1 hG
  · rintro i x H H' hi ⟨s, ys, hD, hl, hy⟩ hY
    refine hg _ _ _ _ _ (fun σ2 H2 h => ?_) (hs i x H H' ys hi s hD hY (fun y H4 => ∃ acc, H4 D = some (.lst acc) ∧ acc.length < sizeLine ∧ (Same H1 (upd H4 D (.lst (acc ++ [y]))) ∧ ∃ ys, (upd H4 D (.lst (acc ++ [y]))) D = some (.lst ys) ∧ ys.length = i + 1 ∧ ∀ (j : Nat) y', ys[j]? = some y' → R j (off [D] (upd H4 D (.lst (acc ++ [y])))) y')) ?_)
    · refine ⟨h.1, ?_⟩
      unfold tYes
      dsimp only
      rw [if_pos rfl]
      exact h.2
    · intro y H4 s4 r
      refine ⟨ys, s4 _ _ hD, Nat.lt_of_le_of_lt (show ys.length ≤ 1000 by omega) (by decide), same_put nD (s.trans s4), ys ++ [y], upd_same, by simp [hl], fun j y' e => ?_⟩
      rw [off_one]
      by_cases hj : j < ys.length
      · rw [List.getElem?_append_left hj] at e
        exact hR j _ _ _ (off_mono s4) (hy j y' e)
      · have ej : j = ys.length := by
          have := (List.getElem?_eq_some_iff.mp e).1
          simp at this; omega
        subst ej
        rw [List.getElem?_append_right (Nat.le_refl _)] at e
        simp at e
        subst e
        rw [hl]
        exact r
  · rintro H ⟨s, ys, hD, hl, hy⟩
    exact hd ys H s hD hl hy
/-- element and test are plain functions of the turn -/
theorem lc_pure (w : Walk J n G Y) (hGm : ∀ H H', Same H H' → G H → G H') (hG : G H1) (f : Nat → Option V) (nD : H1 D = none) (hlen : n ≤ 1000)
    (hs : ∀ (i : Nat) x H H', i < n → Same H1 H → Y i H x H' → ∀ (k : V → Hp → Prop) (kn : Hp → Prop), (∀ y H2, f i = some y → Same H H2 → k y H2) → (∀ H2, f i = none → Same H H2 → kn H2) →
      g x (wipe σ vs) H' fun σ2 H2 => wipe σ2 vs = wipe σ vs ∧ tt σ2 H2 fun b H3 => if b = true then te σ2 H3 k else kn H3)
    (hd : ∀ H, Same H1 H → H D = some (.lst ((List.range n).filterMap f)) → Qd H) : LcAsks J g tt te vs σ H1 D Qd := by
  refine lc_it w (fun i H => Same H1 H ∧ H D = some (.lst ((List.range i).filterMap f))) ?_ ?_ ?_ ?_
  · exact ⟨Same.new nD, upd_same⟩
  · intro i H _ h
    exact hGm _ _ h.1 hG
  · rintro i x H H' hi ⟨s, hD⟩ hY
    have hl : ((List.range i).filterMap f).length ≤ i := by
      have := List.length_filterMap_le f (List.range i)
      rwa [List.length_range] at this
    refine hs i x H H' hi s hY _ _ (fun y H4 e s4 => ?_) (fun H4 e s4 => ?_)
    · refine ⟨_, s4 _ _ hD, Nat.lt_of_le_of_lt (show _ ≤ 1000 by omega) (by decide), same_put nD (s.trans s4), ?_⟩
      rw [upd_same, List.range_succ, List.filterMap_append]
      simp [e]
    · refine ⟨s.trans s4, ?_⟩
      rw [s4 _ _ hD, List.range_succ, List.filterMap_append]
      simp [e]
  · rintro H ⟨s, hD⟩
    exact hd H s hD
theorem sqL_mono {K : PySem.W.Frag} {a : Addr} {xs : List V} (H H' : Hp) (s : Same H H') (h : SqL K H a xs) : SqL K H' a xs := s.seq h
theorem sqL2_mono {K : PySem.W.Frag} {a b : Addr} {xs ys : List V} (H H' : Hp) (s : Same H H') (h : SqL K H a xs ∧ SqL K H b ys) : SqL K H' a xs ∧ SqL K H' b ys := ⟨s.seq h.1, s.seq h.2⟩
theorem range_filterMap {α β : Type} (f : α → Option β) : ∀ (xs : List α), (List.range xs.length).filterMap (fun i => xs[i]?.bind f) = xs.filterMap f
  | [] => rfl
  | x :: xs => by
    have ih := range_filterMap f xs
    rw [List.length_cons, List.range_succ_eq_map, List.filterMap_cons, List.filterMap_map, List.filterMap_cons]
    have e : ((fun i => ((x :: xs)[i]?).bind f) ∘ Nat.succ) = fun i => (xs[i]?).bind f := by funext i; simp
    rw [e, ih]
    simp
theorem range_map {α β : Type} (f : α → β) (xs : List α) : (List.range xs.length).filterMap (fun i => xs[i]?.map f) = xs.map f := by
  have e : (fun (i : Nat) => xs[i]?.map f) = fun (i : Nat) => xs[i]?.bind fun x => some (f x) := by funext i; cases xs[i]? <;> rfl
  rw [e, range_filterMap, ← List.filterMap_eq_map]
  rfl
/-- over a list, no test, a plain function of the item -/
theorem lc_map {K : PySem.W.Frag} {a : Addr} {xs : List V} (f : V → V) (hSq : SqL K H1 a xs) (nD : H1 D = none) (hlen : xs.length ≤ 1000)
    (hs : ∀ (i : Nat) x H, xs[i]? = some x → Same H1 H → ∀ k : V → Hp → Prop, (∀ H', Same H H' → k (f x) H') → g x (wipe σ vs) H fun σ2 H2 => wipe σ2 vs = wipe σ vs ∧ te σ2 H2 k)
    (hd : ∀ H, Same H1 H → H D = some (.lst (xs.map f)) → Qd H)
    (hg : ∀ x σ H Q Q', (∀ σ2 H2, Q σ2 H2 → Q' σ2 H2) → g x σ H Q → g x σ H Q') : LcAsks (Itl K a) g tYes te vs σ H1 D Qd := by
  refine lc_pure walk_list sqL_mono hSq (fun i => xs[i]?.map f) nD hlen (fun i x H H' hi s hY k kn hk _ => ?_) (fun H s hD => hd H s (by rw [← range_map]; exact hD))
  obtain ⟨rfl, hx⟩ := hY
  refine hg _ _ _ _ _ (fun σ2 H2 h => ?_) (hs i x H' hx s k fun H2 s2 => hk _ H2 (by rw [hx]; rfl) s2)
  refine ⟨h.1, ?_⟩
  unfold tYes
  dsimp only
  rw [if_pos rfl]
  exact h.2
theorem eq_map_of {α β : Type} {f : α → β} : ∀ {xs : List α} {ys : List β}, ys.length = xs.length → (∀ (i : Nat) y, ys[i]? = some y → ∃ x, xs[i]? = some x ∧ y = f x) → ys = xs.map f
  | [], [], _, _ => rfl
  | [], _ :: _, h, _ => by cases h
  | _ :: _, [], h, _ => by cases h
  | x :: xs, y :: ys, h, r => by
    obtain ⟨x', e, ey⟩ := r 0 y rfl
    cases e
    rw [ey, eq_map_of (xs := xs) (ys := ys) (by simpa using h) fun i y' e => r (i + 1) y' (by simpa using e)]
    rfl
theorem gtup_mono {K : PySem.W.Frag} {i j : Nat} (x : V) (σ : St) (H : Hp) (Q Q' : St → Hp → Prop) (h : ∀ σ2 H2, Q σ2 H2 → Q' σ2 H2) (q : gTup K 2 (gCons (gName i) (gCons (gName j) gNil)) x σ H Q) : gTup K 2 (gCons (gName i) (gCons (gName j) gNil)) x σ H Q' := by
  obtain ⟨a, xs, e, hs, hl, v, r, er, v2, r2, er2, en, q⟩ := q
  exact ⟨a, xs, e, hs, hl, v, r, er, v2, r2, er2, en, h _ _ q⟩
theorem gname_mono {i : Nat} (x : V) (σ : St) (H : Hp) (Q Q' : St → Hp → Prop) (h : ∀ σ2 H2, Q σ2 H2 → Q' σ2 H2) (q : gName i x σ H Q) : gName i x σ H Q' := h _ _ q
end

/-! #### what sort a value is -/
def isInt : V → Bool
  | .int _ => true
  | _ => false
abbrev Kd (K : PySem.W.Frag) (H : Hp) (v : V) (t : String) : Prop := TyX K H v (.type t)
theorem kd_int {K : PySem.W.Frag} {H : Hp} (i : Int) : Kd K H (.int i) "int" := .base (.int i)
theorem kd_list {K : PySem.W.Frag} {H : Hp} {a : Addr} {xs : List V} (h : SqL K H a xs) : Kd K H (.ref a) "list" := by
  rcases h with (h | ⟨o, h⟩) | ⟨o, its, n, hk, hc, _⟩
  · exact .base (.lst h)
  · exact .base (.frz h)
  · exact .kList hk hc
theorem kd_tup {K : PySem.W.Frag} {H : Hp} {a : Addr} {xs : List V} (h : SqT K H a xs) : Kd K H (.ref a) "tuple" := by
  rcases h with (h | ⟨o, h⟩) | ⟨o, its, n, hk, hc, _⟩
  · exact .base (.tup h)
  · exact .fTuple h
  · exact .kTuple hk hc
theorem kd_isInt {K : PySem.W.Frag} {H : Hp} {v : V} {t : String} (h : Kd K H v t) : isInt v = (t == "int") := by
  generalize e : Value.type t = u at h
  cases h with
  | base b =>
    cases b <;> first | (cases e; rfl) | cases e
  | _ => cases e; rfl
theorem isi_of {K : PySem.W.Frag} {H : Hp} {v : V} {t n : String} {b : Bool} {Q : VK} (h : Kd K H v t) (e : PySem.W.kitOne K (.type t) (.type n) = some b) (q : Q (.bl b) H) : rIsi K [v, .ty n] H Q :=
  ⟨v, .ty n, .type t, .type n, b, rfl, .ty n, h, e, q⟩
/-- isinstance(v, int), (v, bool), (v, list), (v, tuple), (v, str) of a value of a known sort -/
theorem kit_kd {K : PySem.W.Frag} {H : Hp} {v : V} {t : String} (h : Kd K H v t) :
    PySem.W.kitOne K (.type t) (.type "int") = some (t == "int" || t == "bool") ∧ PySem.W.kitOne K (.type t) (.type "bool") = some (t == "bool") ∧
    PySem.W.kitOne K (.type t) (.type "list") = some (t == "list") ∧ PySem.W.kitOne K (.type t) (.type "tuple") = some (t == "tuple") ∧ PySem.W.kitOne K (.type t) (.type "str") = some (t == "str") := by
  generalize e : Value.type t = u at h
  cases h with
  | base b =>
    cases b <;> first | (cases e; exact ⟨kit_ty (by decide +kernel), kit_ty (by decide +kernel), kit_ty (by decide +kernel), kit_ty (by decide +kernel), kit_ty (by decide +kernel)⟩) | cases e
  | _ => cases e; exact ⟨kit_ty (by decide +kernel), kit_ty (by decide +kernel), kit_ty (by decide +kernel), kit_ty (by decide +kernel), kit_ty (by decide +kernel)⟩

/-! #### further facts of the top -/
def exOk (ex : List (PySem.W.Frag → Bool)) (K : PySem.W.Frag) : Bool := ex.all fun f => f K
theorem exAll {ex : List (PySem.W.Frag → Bool)} {K : PySem.W.Frag} (i : Nat) {f : PySem.W.Frag → Bool} (c : exOk ex K = true) (h : ex[i]? = some f) : f K = true := List.all_eq_true.mp c f (List.mem_of_getElem? h)
def obsYG (n : Nat) (fa : List He.Fa) (fn : List He.DefD) (ex : List (PySem.W.Frag → Bool)) (g : Addr → Option Obj) : Bool × He.AlD := (exOk ex (He.frG g (He.asD g n)), He.obsD fa fn (He.frG g (He.asD g n)))
def hookY (n : Nat) (fa : List He.Fa) (fn : List He.DefD) (ex : List (PySem.W.Frag → Bool)) : PySem.W.Hook where
  α := Bool × He.AlD
  obs := fun s => obsYG n fa fn ex s.heap.get?
  val := fun _ => (true, He.valD fn)
  says := fun _ h => ∃ K : PySem.W.Frag, K.In h ∧ He.SaysD fa fn K ∧ exOk ex K = true
  of := fun _ _ e => ⟨_, He.frG_in, congrArg Prod.snd e, congrArg Prod.fst e⟩
  keeps := fun _ _ _ ⟨K, hK, c⟩ k => ⟨K, PySem.W.Frag.In.keeps hK k, c⟩
theorem obsYG_eq {n : Nat} {fa : List He.Fa} {fn : List He.DefD} {ex : List (PySem.W.Frag → Bool)} {g : Addr → Option Obj} {s : Shared} (h : ∀ a, g a = s.heap.get? a) : obsYG n fa fn ex g = (hookY n fa fn ex).obs s := by
  have e : g = s.heap.get? := funext h
  rw [e]; rfl
/-- a class without an __init__ of its own -/
structure MkB (K : PySem.W.Frag) (C : Addr) : Prop where
  makes : PySem.W.makesIn K C = true
  init : PySem.W.findIn K (.ref C) "__init__" = some (some (.builtin "object.__init__"))
  kp : PySem.W.keepIn K (.ref C) = true
  top : PySem.W.mroIn K C (.type "object") = some true
def mkB (K : PySem.W.Frag) (C : Addr) : Bool := PySem.W.makesIn K C && (He.eqO (PySem.W.findIn K (.ref C) "__init__") (some (some (.builtin "object.__init__"))) && (PySem.W.keepIn K (.ref C) && decide (PySem.W.mroIn K C (.type "object") = some true)))
theorem mkB_ok {K : PySem.W.Frag} {C : Addr} (h : mkB K C = true) : MkB K C := by
  obtain ⟨h1, h⟩ := He.ba h
  obtain ⟨h2, h⟩ := He.ba h
  obtain ⟨h3, h4⟩ := He.ba h
  exact ⟨h1, He.eqO_ok h2, h3, of_decide_eq_true h4⟩
/-- what isinstance asks of an own class -/
structure IsC (K : PySem.W.Frag) (C : Addr) : Prop where
  cls : PySem.W.findIn K (.ref C) "__class__" = some (some (.builtin "object.__class__"))
  spe : PySem.W.specialIn K (.builtin "object.__class__") "__get__" = some (some (.builtin "getset_descriptor.__get__"))
  tak : PySem.W.takesIn K (.builtin "object.__class__") = some true
  mro : PySem.W.mroIn K C (.type "object") = some true
def isCB (K : PySem.W.Frag) (C : Addr) : Bool := He.eqO (PySem.W.findIn K (.ref C) "__class__") (some (some (.builtin "object.__class__"))) && (He.eqO (PySem.W.specialIn K (.builtin "object.__class__") "__get__") (some (some (.builtin "getset_descriptor.__get__"))) &&
  (decide (PySem.W.takesIn K (.builtin "object.__class__") = some true) && decide (PySem.W.mroIn K C (.type "object") = some true)))
theorem isCB_ok {K : PySem.W.Frag} {C : Addr} (h : isCB K C = true) : IsC K C := by
  obtain ⟨h1, h⟩ := He.ba h
  obtain ⟨h2, h⟩ := He.ba h
  obtain ⟨h3, h4⟩ := He.ba h
  exact ⟨He.eqO_ok h1, He.eqO_ok h2, of_decide_eq_true h3, of_decide_eq_true h4⟩
/-- C(), no __init__: a new instance without attributes -/
def tMkO (C : Addr) : TE := fun _ H Q => ∀ x dx, H x = none → H dx = none → dx ≠ x → Q (.ref x) (upd (upd H dx (.own x)) x (.ins C dx []))
theorem pe_mkO {X : Cx} {x : Str} {C : Addr} {p pos : Pos} (M : MkB X.K C) (hg : Gl X x) (hm : X.mg x = some (.ref C)) (hdb : (x == ("__debug__" : Str)) = false := by decide) : PE X (.Call (.Name x p) [] [] pos) (tMkO C) := by
  refine ⟨fun pins s σ H Q I h => ?_⟩
  refine wpAny_Call_Name_kw (ld_glob I hg hm ?_ hdb)
  refine PySem.W.callWith_K0 I.kIn M.kp ?_
  have hq := h (s.heap.objs.size + 1) s.heap.objs.size (I.hok.fresh (Nat.le_succ _)) (I.hok.fresh (Nat.le_refl _)) (Nat.ne_of_lt (Nat.lt_succ_self _))
  have I2 := Inv.made (C := C) I
  refine wpAny_call (make_map0 I.kIn M.makes M.init (fun self => PySem.W.Looks.of_pure (PySem.W.oi_bind self)) ?_)
  have hL : PySem.W.Looks (model X.prog X.w) ((s.heap.push PySem.W.emptyDict).push (PySem.W.instObj C s.heap.objs.size)) (isInstance (.ref (s.heap.objs.size + 1)) (.type "object")) true := by
    have e2 : ((s.heap.push PySem.W.emptyDict).push (PySem.W.instObj C s.heap.objs.size)).get? (s.heap.objs.size + 1) = some (PySem.W.instObj C s.heap.objs.size) := by
      have := Heap.get?_push_size (s.heap.push PySem.W.emptyDict) (o := PySem.W.instObj C s.heap.objs.size) rfl
      rwa [Heap.size_push] at this
    have t1 : PySem.W.Looks (model X.prog X.w) ((s.heap.push PySem.W.emptyDict).push (PySem.W.instObj C s.heap.objs.size)) (typeOf (.ref (s.heap.objs.size + 1))) (.ref C) := (PySem.W.Looks.ld e2).andThen .now
    exact t1.andThen (PySem.W.looks_mroIn I2.kIn M.top)
  refine codeAny_call_builtin PySem.W.oi_plain PySem.W.entry_oi (@PySem.W.check_slot (model X.prog X.w) _ _ _ "object.__init__" "object" "__init__" _ [] [] _ PySem.W.oi_kind PySem.W.oi_split hL (PySem.W.oi_args _) ?_)
  rw [PySem.W.oi_run]
  exact wpAny_pure (And.intro rfl ⟨V.ref (s.heap.objs.size + 1), _, I2, rfl, hq⟩)
end Song

/-! ### Pl1: plain lists: greatest ones, songs in turn (no program in sight) -/
namespace Song
def maxL : List Int → Int
  | [] => 0
  | n :: r => r.foldl max n
theorem foldl_max_le : ∀ (r : List Int) (n m : Int), n ≤ m → (∀ y ∈ r, y ≤ m) → r.foldl max n ≤ m
  | [], _, _, h, _ => h
  | y :: r, n, m, h, hr => foldl_max_le r (max n y) m (by have := hr y (by simp); omega) fun z hz => hr z (by simp [hz])
theorem le_foldl_max : ∀ (r : List Int) (n : Int), n ≤ r.foldl max n ∧ ∀ y ∈ r, y ≤ r.foldl max n
  | [], n => ⟨Int.le_refl _, fun y h => by cases h⟩
  | y :: r, n => by
    obtain ⟨h1, h2⟩ := le_foldl_max r (max n y)
    have e : (y :: r).foldl max n = r.foldl max (max n y) := rfl
    rw [e]
    refine ⟨by omega, fun z hz => ?_⟩
    rcases List.mem_cons.mp hz with q | q
    · omega
    · exact h2 z q
theorem foldl_max_mem : ∀ (r : List Int) (n : Int), r.foldl max n ∈ n :: r
  | [], n => by simp
  | y :: r, n => by
    have h := foldl_max_mem r (max n y)
    have e : (y :: r).foldl max n = r.foldl max (max n y) := rfl
    rw [e]
    rcases List.mem_cons.mp h with q | q
    · rw [q]
      by_cases c : n ≤ y
      · rw [Int.max_eq_right c]; simp
      · rw [Int.max_eq_left (by omega)]; simp
    · simp [q]
theorem maxL_ge {ns : List Int} {y : Int} (h : y ∈ ns) : y ≤ maxL ns := by
  cases ns with
  | nil => cases h
  | cons n r =>
    obtain ⟨h1, h2⟩ := le_foldl_max r n
    rcases List.mem_cons.mp h with q | q
    · rw [q]; exact h1
    · exact h2 y q
theorem maxL_mem {ns : List Int} (h : ns ≠ []) : maxL ns ∈ ns := by
  cases ns with
  | nil => exact absurd rfl h
  | cons n r => exact foldl_max_mem r n
theorem maxL_eq {ns : List Int} {m : Int} (h : m ∈ ns) (hm : ∀ y ∈ ns, y ≤ m) : m = maxL ns := by
  have h1 := maxL_ge h
  have h2 := hm _ (maxL_mem (fun e => by rw [e] at h; cases h))
  omega
/-- the least round that a singer's next song can have -/
def floorOf (last : List Int) (going s : Int) : Int := max going (last.getD s.toNat 0 + 1)
def roundFor (last : List Int) (going : Int) (ss : List Int) : Int := maxL (ss.map (floorOf last going))
/-- the law's own way to say it -/
theorem roundFor_law {last : List Int} {going : Int} {ss : List Int} (h : ss ≠ []) : maxL (going :: ss.map fun s => last.getD s.toNat 0 + 1) = roundFor last going ss := by
  have h1 : ∀ s ∈ ss, floorOf last going s ≤ roundFor last going ss := fun s hs => maxL_ge (List.mem_map.mpr ⟨s, hs, rfl⟩)
  have h2 : going ≤ maxL (going :: ss.map fun s => last.getD s.toNat 0 + 1) := maxL_ge (by simp)
  have h3 : ∀ s ∈ ss, last.getD s.toNat 0 + 1 ≤ maxL (going :: ss.map fun s => last.getD s.toNat 0 + 1) := fun s hs => maxL_ge (List.mem_cons_of_mem _ (List.mem_map.mpr ⟨s, hs, rfl⟩))
  have h4 := maxL_mem (ns := going :: ss.map fun s => last.getD s.toNat 0 + 1) (by simp)
  have h5 : roundFor last going ss ∈ ss.map (floorOf last going) := maxL_mem (by simpa using h)
  obtain ⟨s, hs, e⟩ := List.mem_map.mp h5
  obtain ⟨s0, hs0⟩ : ∃ s0, s0 ∈ ss := by
    cases ss with
    | nil => exact absurd rfl h
    | cons a r => exact ⟨a, by simp⟩
  have f0 := h1 s0 hs0
  have f1 := h3 s hs
  unfold floorOf at e f0
  rcases List.mem_cons.mp h4 with q | q
  · omega
  · obtain ⟨s1, hs1, e1⟩ := List.mem_map.mp q
    have f2 := h1 s1 hs1
    unfold floorOf at f2
    omega
/-! #### pairs in order -/
def ltPr (a b : Int × Int) : Bool := decide (a.1 < b.1) || (decide (a.1 = b.1) && decide (a.2 < b.2))
theorem ltPr_iff {a b : Int × Int} : ltPr a b = true ↔ a.1 < b.1 ∨ (a.1 = b.1 ∧ a.2 < b.2) := by
  unfold ltPr
  simp
theorem ltPr_false {a b : Int × Int} : ltPr a b = false ↔ ¬ (a.1 < b.1 ∨ (a.1 = b.1 ∧ a.2 < b.2)) := by
  rw [← ltPr_iff]; simp
theorem ltPr_anti {a b : Int × Int} (h1 : ltPr a b = false) (h2 : ltPr b a = false) : a = b := by
  rw [ltPr_false] at h1 h2
  obtain ⟨a1, a2⟩ := a
  obtain ⟨b1, b2⟩ := b
  simp only at h1 h2
  have e1 : a1 = b1 := by omega
  have e2 : a2 = b2 := by omega
  rw [e1, e2]
def SortedP (l : List (Int × Int)) : Prop := l.Pairwise fun x y => ltPr y x = false
theorem sortedP_unique : ∀ {l m : List (Int × Int)}, l.Perm m → SortedP l → SortedP m → l = m
  | [], m, p, _, _ => (List.nil_perm.mp p).symm ▸ rfl
  | x :: l, [], p, _, _ => absurd p.length_eq (by simp)
  | x :: l, y :: m, p, h1, h2 => by
    obtain ⟨a1, a2⟩ := List.pairwise_cons.mp h1
    obtain ⟨b1, b2⟩ := List.pairwise_cons.mp h2
    have e : x = y := by
      have hx : x ∈ y :: m := p.subset (by simp)
      have hy : y ∈ x :: l := p.symm.subset (by simp)
      rcases List.mem_cons.mp hx with q | q
      · exact q
      rcases List.mem_cons.mp hy with q' | q'
      · exact q'.symm
      exact ltPr_anti (b1 x q) (a1 y q')
    subst e
    rw [sortedP_unique (List.perm_cons x |>.mp p) a2 b2]
def insP (x : Int × Int) : List (Int × Int) → List (Int × Int)
  | [] => [x]
  | y :: r => if ltPr y x then y :: insP x r else x :: y :: r
def sortP : List (Int × Int) → List (Int × Int)
  | [] => []
  | x :: r => insP x (sortP r)
theorem insP_perm (x : Int × Int) : ∀ l, (insP x l).Perm (x :: l)
  | [] => List.Perm.refl _
  | y :: r => by
    unfold insP
    split
    · exact ((insP_perm x r).cons y).trans (List.Perm.swap x y r)
    · exact List.Perm.refl _
theorem sortP_perm : ∀ l, (sortP l).Perm l
  | [] => List.Perm.refl _
  | x :: r => (insP_perm x (sortP r)).trans ((sortP_perm r).cons x)
theorem insP_sorted (x : Int × Int) : ∀ l, SortedP l → SortedP (insP x l)
  | [], _ => by
    unfold insP SortedP
    exact List.pairwise_singleton _ _
  | y :: r, h => by
    obtain ⟨a1, a2⟩ := List.pairwise_cons.mp h
    unfold insP
    split
    · rename_i c
      refine List.pairwise_cons.mpr ⟨fun z hz => ?_, insP_sorted x r a2⟩
      rcases List.mem_cons.mp ((insP_perm x r).subset hz) with q | q
      · rw [q, ltPr_false]
        rw [ltPr_iff] at c
        omega
      · exact a1 z q
    · rename_i c
      have c : ltPr y x = false := by simpa using c
      refine List.pairwise_cons.mpr ⟨fun z hz => ?_, h⟩
      rcases List.mem_cons.mp hz with q | q
      · rw [q]; exact c
      · have := a1 z q
        rw [ltPr_false] at this c ⊢
        omega
theorem sortP_sorted : ∀ l, SortedP (sortP l)
  | [] => List.Pairwise.nil
  | x :: r => insP_sorted x _ (sortP_sorted r)
theorem sortP_eq {l m : List (Int × Int)} (p : l.Perm m) (h : SortedP l) : l = sortP m := sortedP_unique (p.trans (sortP_perm m).symm) h (sortP_sorted m)
/-- the songs that wait, in turn -/
def inTurn (rounds waits : List Int) : List Int := (sortP (waits.map fun s => (rounds.getD s.toNat 0, s))).map (·.2)
theorem inTurn_perm (rounds waits : List Int) : (inTurn rounds waits).Perm waits := by
  unfold inTurn
  have h := (sortP_perm (waits.map fun s => (rounds.getD s.toNat 0, s))).map (·.2)
  rw [List.map_map] at h
  have e : waits.map ((fun x : Int × Int => x.2) ∘ fun s => (rounds.getD s.toNat 0, s)) = waits := by
    rw [show ((fun x : Int × Int => x.2) ∘ fun s => (rounds.getD s.toNat 0, s)) = id from rfl, List.map_id]
  rw [e] at h
  exact h
end Song

namespace Song
open PySem L2
def top (i : Nat) : Stmt := PySem.Challenge.pw_songturns_k02_whole_within.main.body.getD i (.Pass ⟨0, 0, 0, 0⟩)
def inC (st : Stmt) (i : Nat) : Stmt := match st with
  | .ClassDef _ _ _ b _ _ _ _ _ _ _ => b.getD i (.Pass ⟨0, 0, 0, 0⟩)
  | _ => .Pass ⟨0, 0, 0, 0⟩
abbrev s_is_whole : Stmt := top 11
def d_is_whole : He.DefD := ⟨("is_whole", none), "is_whole", "is_whole", defArgs s_is_whole, defBody s_is_whole, defScope s_is_whole, [], []⟩
abbrev s_are_numbers : Stmt := top 12
def d_are_numbers : He.DefD := ⟨("are_numbers", none), "are_numbers", "are_numbers", defArgs s_are_numbers, defBody s_are_numbers, defScope s_are_numbers, [], []⟩
abbrev s_check_many : Stmt := top 13
def d_check_many : He.DefD := ⟨("check_many", none), "check_many", "check_many", defArgs s_check_many, defBody s_check_many, defScope s_check_many, [], []⟩
abbrev s_are_singers : Stmt := top 14
def d_are_singers : He.DefD := ⟨("are_singers", none), "are_singers", "are_singers", defArgs s_are_singers, defBody s_are_singers, defScope s_are_singers, [], []⟩
abbrev s_floor_of : Stmt := top 16
def d_floor_of : He.DefD := ⟨("floor_of", none), "floor_of", "floor_of", defArgs s_floor_of, defBody s_floor_of, defScope s_floor_of, [], []⟩
abbrev s_round_for : Stmt := top 17
def d_round_for : He.DefD := ⟨("round_for", none), "round_for", "round_for", defArgs s_round_for, defBody s_round_for, defScope s_round_for, [], []⟩
abbrev s_in_turn : Stmt := top 18
def d_in_turn : He.DefD := ⟨("in_turn", none), "in_turn", "in_turn", defArgs s_in_turn, defBody s_in_turn, defScope s_in_turn, [], []⟩
abbrev s_more_ahead : Stmt := top 19
def d_more_ahead : He.DefD := ⟨("more_ahead", none), "more_ahead", "more_ahead", defArgs s_more_ahead, defBody s_more_ahead, defScope s_more_ahead, [], []⟩
abbrev s_Evening___init__ : Stmt := inC (top 21) 0
def d_Evening___init__ : He.DefD := ⟨("Evening", some "__init__"), "__init__", "Evening.__init__", defArgs s_Evening___init__, defBody s_Evening___init__, defScope s_Evening___init__, [], []⟩
abbrev s_Evening_wish : Stmt := inC (top 21) 1
def d_Evening_wish : He.DefD := ⟨("Evening", some "wish"), "wish", "Evening.wish", defArgs s_Evening_wish, defBody s_Evening_wish, defScope s_Evening_wish, [], []⟩
abbrev s_Evening_sing : Stmt := inC (top 21) 2
def d_Evening_sing : He.DefD := ⟨("Evening", some "sing"), "sing", "Evening.sing", defArgs s_Evening_sing, defBody s_Evening_sing, defScope s_Evening_sing, [], []⟩
abbrev s_Evening_look_at : Stmt := inC (top 21) 3
def d_Evening_look_at : He.DefD := ⟨("Evening", some "look_at"), "look_at", "Evening.look_at", defArgs s_Evening_look_at, defBody s_Evening_look_at, defScope s_Evening_look_at, [], []⟩
abbrev s_Evening_withdraw : Stmt := inC (top 21) 4
def d_Evening_withdraw : He.DefD := ⟨("Evening", some "withdraw"), "withdraw", "Evening.withdraw", defArgs s_Evening_withdraw, defBody s_Evening_withdraw, defScope s_Evening_withdraw, [], []⟩
abbrev s_Evening_waits : Stmt := inC (top 21) 6
def d_Evening_waits : He.DefD := ⟨("Evening", some "waits"), "waits", "Evening.waits", defArgs s_Evening_waits, defBody s_Evening_waits, defScope s_Evening_waits, [], []⟩
abbrev s_Evening_ahead_of : Stmt := inC (top 21) 7
def d_Evening_ahead_of : He.DefD := ⟨("Evening", some "ahead_of"), "ahead_of", "Evening.ahead_of", defArgs s_Evening_ahead_of, defBody s_Evening_ahead_of, defScope s_Evening_ahead_of, [], []⟩
abbrev s_Evening_within : Stmt := inC (top 21) 8
def d_Evening_within : He.DefD := ⟨("Evening", some "within"), "within", "Evening.within", defArgs s_Evening_within, defBody s_Evening_within, defScope s_Evening_within, [], []⟩
abbrev s_Evening_worst : Stmt := inC (top 21) 9
def d_Evening_worst : He.DefD := ⟨("Evening", some "worst"), "worst", "Evening.worst", defArgs s_Evening_worst, defBody s_Evening_worst, defScope s_Evening_worst, [], []⟩
abbrev s_Evening_tale : Stmt := inC (top 21) 10
def d_Evening_tale : He.DefD := ⟨("Evening", some "tale"), "tale", "Evening.tale", defArgs s_Evening_tale, defBody s_Evening_tale, defScope s_Evening_tale, [], []⟩
abbrev s__law_cell_at : Stmt := top 23
def d__law_cell_at : He.DefD := ⟨("_law_cell_at", none), "_law_cell_at", "_law_cell_at", defArgs s__law_cell_at, defBody s__law_cell_at, defScope s__law_cell_at, [], []⟩
abbrev s__law_draw : Stmt := top 24
def d__law_draw : He.DefD := ⟨("_law_draw", none), "_law_draw", "_law_draw", defArgs s__law_draw, defBody s__law_draw, defScope s__law_draw, [], []⟩
abbrev s__law_value : Stmt := top 25
def d__law_value : He.DefD := ⟨("_law_value", none), "_law_value", "_law_value", defArgs s__law_value, defBody s__law_value, defScope s__law_value, [], []⟩
abbrev s__law_whole : Stmt := top 26
def d__law_whole : He.DefD := ⟨("_law_whole", none), "_law_whole", "_law_whole", defArgs s__law_whole, defBody s__law_whole, defScope s__law_whole, [], []⟩
abbrev s__law_many : Stmt := top 27
def d__law_many : He.DefD := ⟨("_law_many", none), "_law_many", "_law_many", defArgs s__law_many, defBody s__law_many, defScope s__law_many, [], []⟩
abbrev s__law_deeds : Stmt := top 28
def d__law_deeds : He.DefD := ⟨("_law_deeds", none), "_law_deeds", "_law_deeds", defArgs s__law_deeds, defBody s__law_deeds, defScope s__law_deeds, [], []⟩
abbrev s__law_open : Stmt := top 29
def d__law_open : He.DefD := ⟨("_law_open", none), "_law_open", "_law_open", defArgs s__law_open, defBody s__law_open, defScope s__law_open, [], []⟩
abbrev s__law_queue : Stmt := top 30
def d__law_queue : He.DefD := ⟨("_law_queue", none), "_law_queue", "_law_queue", defArgs s__law_queue, defBody s__law_queue, defScope s__law_queue, [], []⟩
abbrev s__law_wished : Stmt := top 31
def d__law_wished : He.DefD := ⟨("_law_wished", none), "_law_wished", "_law_wished", defArgs s__law_wished, defBody s__law_wished, defScope s__law_wished, [], []⟩
abbrev s__law_sung : Stmt := top 32
def d__law_sung : He.DefD := ⟨("_law_sung", none), "_law_sung", "_law_sung", defArgs s__law_sung, defBody s__law_sung, defScope s__law_sung, [], []⟩
abbrev s__law_out : Stmt := top 33
def d__law_out : He.DefD := ⟨("_law_out", none), "_law_out", "_law_out", defArgs s__law_out, defBody s__law_out, defScope s__law_out, [], []⟩
abbrev s__law_began : Stmt := top 34
def d__law_began : He.DefD := ⟨("_law_began", none), "_law_began", "_law_began", defArgs s__law_began, defBody s__law_began, defScope s__law_began, [], []⟩
abbrev s__law_worst : Stmt := top 35
def d__law_worst : He.DefD := ⟨("_law_worst", none), "_law_worst", "_law_worst", defArgs s__law_worst, defBody s__law_worst, defScope s__law_worst, [], []⟩
abbrev s__law_turns_till : Stmt := top 36
def d__law_turns_till : He.DefD := ⟨("_law_turns_till", none), "_law_turns_till", "_law_turns_till", defArgs s__law_turns_till, defBody s__law_turns_till, defScope s__law_turns_till, [], []⟩
abbrev s__law_right : Stmt := top 37
def d__law_right : He.DefD := ⟨("_law_right", none), "_law_right", "_law_right", defArgs s__law_right, defBody s__law_right, defScope s__law_right, [], []⟩
abbrev s_law : Stmt := top 38
def d_law : He.DefD := ⟨("law", none), "law", "law", defArgs s_law, defBody s_law, defScope s_law, [], []⟩
structure Tx (K : PySem.W.Frag) (mg : Str → Option Value) : Prop where
  g_TurnError : mg "TurnError" = some (.ref (He.ga K "TurnError"))
  g_BadMany : mg "BadMany" = some (.ref (He.ga K "BadMany"))
  g_BadSingers : mg "BadSingers" = some (.ref (He.ga K "BadSingers"))
  g_BadSong : mg "BadSong" = some (.ref (He.ga K "BadSong"))
  g_TooMany : mg "TooMany" = some (.ref (He.ga K "TooMany"))
  c_MOST_SINGERS : ∃ t, mg "MOST_SINGERS" = some (.int 6 t)
  c_MOST_OF_SONG : ∃ t, mg "MOST_OF_SONG" = some (.int 3 t)
  c_MOST_SONGS : ∃ t, mg "MOST_SONGS" = some (.int 24 t)
  g_is_whole : mg "is_whole" = some (.ref (He.ga K "is_whole"))
  g_are_numbers : mg "are_numbers" = some (.ref (He.ga K "are_numbers"))
  g_check_many : mg "check_many" = some (.ref (He.ga K "check_many"))
  g_are_singers : mg "are_singers" = some (.ref (He.ga K "are_singers"))
  g_floor_of : mg "floor_of" = some (.ref (He.ga K "floor_of"))
  g_round_for : mg "round_for" = some (.ref (He.ga K "round_for"))
  g_in_turn : mg "in_turn" = some (.ref (He.ga K "in_turn"))
  g_more_ahead : mg "more_ahead" = some (.ref (He.ga K "more_ahead"))
  g_Evening : mg "Evening" = some (.ref (He.ga K "Evening"))
  cls_Evening : Cls K (He.ga K "Evening")
  mk_Evening : Mk K (He.ga K "Evening") (He.ma K (He.ga K "Evening") "__init__")
  me_Evening_wish : Meth K (He.ga K "Evening") "wish" (He.ma K (He.ga K "Evening") "wish")
  me_Evening_sing : Meth K (He.ga K "Evening") "sing" (He.ma K (He.ga K "Evening") "sing")
  me_Evening_look_at : Meth K (He.ga K "Evening") "look_at" (He.ma K (He.ga K "Evening") "look_at")
  me_Evening_withdraw : Meth K (He.ga K "Evening") "withdraw" (He.ma K (He.ga K "Evening") "withdraw")
  me_Evening_waits : Meth K (He.ga K "Evening") "waits" (He.ma K (He.ga K "Evening") "waits")
  me_Evening_ahead_of : Meth K (He.ga K "Evening") "ahead_of" (He.ma K (He.ga K "Evening") "ahead_of")
  me_Evening_within : Meth K (He.ga K "Evening") "within" (He.ma K (He.ga K "Evening") "within")
  me_Evening_worst : Meth K (He.ga K "Evening") "worst" (He.ma K (He.ga K "Evening") "worst")
  me_Evening_tale : Meth K (He.ga K "Evening") "tale" (He.ma K (He.ga K "Evening") "tale")
  na_Evening_came : NoAttr K (He.ga K "Evening") "came"
  na_Evening_going : NoAttr K (He.ga K "Evening") "going"
  na_Evening_last : NoAttr K (He.ga K "Evening") "last"
  na_Evening_rounds : NoAttr K (He.ga K "Evening") "rounds"
  na_Evening_waiting : NoAttr K (He.ga K "Evening") "waiting"
  g__law_cell_at : mg "_law_cell_at" = some (.ref (He.ga K "_law_cell_at"))
  g__law_draw : mg "_law_draw" = some (.ref (He.ga K "_law_draw"))
  g__law_value : mg "_law_value" = some (.ref (He.ga K "_law_value"))
  g__law_whole : mg "_law_whole" = some (.ref (He.ga K "_law_whole"))
  g__law_many : mg "_law_many" = some (.ref (He.ga K "_law_many"))
  g__law_deeds : mg "_law_deeds" = some (.ref (He.ga K "_law_deeds"))
  g__law_open : mg "_law_open" = some (.ref (He.ga K "_law_open"))
  g__law_queue : mg "_law_queue" = some (.ref (He.ga K "_law_queue"))
  g__law_wished : mg "_law_wished" = some (.ref (He.ga K "_law_wished"))
  g__law_sung : mg "_law_sung" = some (.ref (He.ga K "_law_sung"))
  g__law_out : mg "_law_out" = some (.ref (He.ga K "_law_out"))
  g__law_began : mg "_law_began" = some (.ref (He.ga K "_law_began"))
  g__law_worst : mg "_law_worst" = some (.ref (He.ga K "_law_worst"))
  g__law_turns_till : mg "_law_turns_till" = some (.ref (He.ga K "_law_turns_till"))
  g__law_right : mg "_law_right" = some (.ref (He.ga K "_law_right"))
  g_law : mg "law" = some (.ref (He.ga K "law"))
  len : mg "len" = none
  isinstance : mg "isinstance" = none
  all : mg "all" = none
  any : mg "any" = none
  range : mg "range" = none
  sorted : mg "sorted" = none
  set : mg "set" = none
  max : mg "max" = none
  min : mg "min" = none
  list : mg "list" = none
  enumerate : mg "enumerate" = none
  zip : mg "zip" = none
  int : mg "int" = none
  bool : mg "bool" = none
  tuple : mg "tuple" = none
  str : mg "str" = none
  dict : mg "dict" = none
  abs : mg "abs" = none
  d_is_whole : ∃ fd, FnP K "is_whole" "is_whole" s_is_whole (He.ga K "is_whole") fd
  d_are_numbers : ∃ fd, FnP K "are_numbers" "are_numbers" s_are_numbers (He.ga K "are_numbers") fd
  d_check_many : ∃ fd, FnP K "check_many" "check_many" s_check_many (He.ga K "check_many") fd
  d_are_singers : ∃ fd, FnP K "are_singers" "are_singers" s_are_singers (He.ga K "are_singers") fd
  d_floor_of : ∃ fd, FnP K "floor_of" "floor_of" s_floor_of (He.ga K "floor_of") fd
  d_round_for : ∃ fd, FnP K "round_for" "round_for" s_round_for (He.ga K "round_for") fd
  d_in_turn : ∃ fd, FnP K "in_turn" "in_turn" s_in_turn (He.ga K "in_turn") fd
  d_more_ahead : ∃ fd, FnP K "more_ahead" "more_ahead" s_more_ahead (He.ga K "more_ahead") fd
  d_Evening___init__ : ∃ fd, FnP K "__init__" "Evening.__init__" s_Evening___init__ (He.ma K (He.ga K "Evening") "__init__") fd
  d_Evening_wish : ∃ fd, FnP K "wish" "Evening.wish" s_Evening_wish (He.ma K (He.ga K "Evening") "wish") fd
  d_Evening_sing : ∃ fd, FnP K "sing" "Evening.sing" s_Evening_sing (He.ma K (He.ga K "Evening") "sing") fd
  d_Evening_look_at : ∃ fd, FnP K "look_at" "Evening.look_at" s_Evening_look_at (He.ma K (He.ga K "Evening") "look_at") fd
  d_Evening_withdraw : ∃ fd, FnP K "withdraw" "Evening.withdraw" s_Evening_withdraw (He.ma K (He.ga K "Evening") "withdraw") fd
  d_Evening_waits : ∃ fd, FnP K "waits" "Evening.waits" s_Evening_waits (He.ma K (He.ga K "Evening") "waits") fd
  d_Evening_ahead_of : ∃ fd, FnP K "ahead_of" "Evening.ahead_of" s_Evening_ahead_of (He.ma K (He.ga K "Evening") "ahead_of") fd
  d_Evening_within : ∃ fd, FnP K "within" "Evening.within" s_Evening_within (He.ma K (He.ga K "Evening") "within") fd
  d_Evening_worst : ∃ fd, FnP K "worst" "Evening.worst" s_Evening_worst (He.ma K (He.ga K "Evening") "worst") fd
  d_Evening_tale : ∃ fd, FnP K "tale" "Evening.tale" s_Evening_tale (He.ma K (He.ga K "Evening") "tale") fd
  d__law_cell_at : ∃ fd, FnP K "_law_cell_at" "_law_cell_at" s__law_cell_at (He.ga K "_law_cell_at") fd
  d__law_draw : ∃ fd, FnP K "_law_draw" "_law_draw" s__law_draw (He.ga K "_law_draw") fd
  d__law_value : ∃ fd, FnP K "_law_value" "_law_value" s__law_value (He.ga K "_law_value") fd
  d__law_whole : ∃ fd, FnP K "_law_whole" "_law_whole" s__law_whole (He.ga K "_law_whole") fd
  d__law_many : ∃ fd, FnP K "_law_many" "_law_many" s__law_many (He.ga K "_law_many") fd
  d__law_deeds : ∃ fd, FnP K "_law_deeds" "_law_deeds" s__law_deeds (He.ga K "_law_deeds") fd
  d__law_open : ∃ fd, FnP K "_law_open" "_law_open" s__law_open (He.ga K "_law_open") fd
  d__law_queue : ∃ fd, FnP K "_law_queue" "_law_queue" s__law_queue (He.ga K "_law_queue") fd
  d__law_wished : ∃ fd, FnP K "_law_wished" "_law_wished" s__law_wished (He.ga K "_law_wished") fd
  d__law_sung : ∃ fd, FnP K "_law_sung" "_law_sung" s__law_sung (He.ga K "_law_sung") fd
  d__law_out : ∃ fd, FnP K "_law_out" "_law_out" s__law_out (He.ga K "_law_out") fd
  d__law_began : ∃ fd, FnP K "_law_began" "_law_began" s__law_began (He.ga K "_law_began") fd
  d__law_worst : ∃ fd, FnP K "_law_worst" "_law_worst" s__law_worst (He.ga K "_law_worst") fd
  d__law_turns_till : ∃ fd, FnP K "_law_turns_till" "_law_turns_till" s__law_turns_till (He.ga K "_law_turns_till") fd
  d__law_right : ∃ fd, FnP K "_law_right" "_law_right" s__law_right (He.ga K "_law_right") fd
  d_law : ∃ fd, FnP K "law" "law" s_law (He.ga K "law") fd
end Song

/-! ### Ev1: small defs -/
namespace Song
open PySem L2
section
variable {P : Program} {w : World} {K : PySem.W.Frag} {mg : Str → Option Value} {base : Heap}
theorem sc_is_whole : FnScope ["thing"] ["thing"] (defScope s_is_whole) := ⟨rfl, rfl, rfl, by decide +kernel, rfl, by decide +kernel, by decide +kernel⟩
def sp_is_whole (K : PySem.W.Frag) : Sp := fun vs H Q _ => ∃ (v : V) (t : String), vs = [v] ∧ Kd K H v t ∧ Q (.bl (isInt v)) H
theorem fn_is_whole (T : Tx K mg) : Fn P w K mg base "is_whole" 1 (sp_is_whole K) := by
  obtain ⟨fd, F⟩ := T.d_is_whole
  refine ⟨_, fd, _, F.ok (CX := CX0) sc_is_whole (fun vs H Q E h => ?_) (fun cdv A outer s H vs Q E hr h => ?_), T.g_is_whole, F.kp, F.bindsN fun _ _ _ _ _ _ us hl => match us, hl with | [_], _ => rfl⟩
  · obtain ⟨v, t, rfl, _⟩ := h; rfl
  · obtain ⟨v, t, rfl, ht, q⟩ := h
    refine ⟨_, PSs.nox (pss_one (ps_ret (pe_and (pe_callB (show CallR _ _ (rIsi K) from call_isi) (by rfl) T.isinstance (by decide +kernel) (pa_cons (pv 0) (pa_cons (pe_gt (n := "int") T.int (by rfl) (by decide +kernel)) pa_nil))) (pe_one (pe_not (pe_callB (show CallR _ _ (rIsi K) from call_isi) (by rfl) T.isinstance (by decide +kernel) (pa_cons (pv 0) (pa_cons (pe_gt (n := "bool") T.bool (by rfl) (by decide +kernel)) pa_nil)))))))), ?_⟩
    obtain ⟨k1, k2, _⟩ := kit_kd ht
    refine ⟨_, rfl, _, _, _, _, _, rfl, .ty _, ht, k1, _, rfl, ?_⟩
    rw [kd_isInt ht] at q
    by_cases e : t = "int"
    · subst e
      exact iteT ⟨_, rfl, _, _, _, _, _, rfl, .ty _, ht, k2, _, rfl, q⟩
    · by_cases e2 : t = "bool"
      · subst e2
        exact iteT ⟨_, rfl, _, _, _, _, _, rfl, .ty _, ht, k2, _, rfl, q⟩
      · have f1 : (t == "int") = false := beq_eq_false_iff_ne.mpr e
        have f2 : (t == "bool") = false := beq_eq_false_iff_ne.mpr e2
        rw [f1] at q
        rw [f1, f2]
        exact iteF q
theorem sc_are_numbers : FnScope ["thing", "one"] ["thing"] (defScope s_are_numbers) := ⟨rfl, rfl, rfl, by decide +kernel, rfl, by decide +kernel, by decide +kernel⟩
def sp_are_numbers (K : PySem.W.Frag) : Sp := fun vs H Q _ => ∃ v : V, vs = [v] ∧
  ((∃ (a : Addr) (xs : List V), v = .ref a ∧ SqL K H a xs ∧ xs.length ≤ 1000 ∧ (∀ x ∈ xs, ∃ t, Kd K H x t) ∧ ∀ H', Same H H' → Q (.bl (xs.all isInt)) H') ∨ (∃ t, Kd K H v t ∧ t ≠ "list" ∧ Q (.bl false) H))
theorem kd_mono {K : PySem.W.Frag} {H H' : Hp} {v : V} {t : String} (s : Same H H') (h : Kd K H v t) : Kd K H' v t := by
  generalize e : Value.type t = u at h
  cases h with
  | base b =>
    cases b with
    | non => cases e; exact .base .non
    | bl x => cases e; exact .base (.bl x)
    | int x => cases e; exact .base (.int x)
    | str x => cases e; exact .base (.str x)
    | flt x => cases e; exact .base (.flt x)
    | lst h => cases e; exact .base (.lst (s _ _ h))
    | frz h => cases e; exact .base (.frz (s _ _ h))
    | tup h => cases e; exact .base (.tup (s _ _ h))
    | dK h => cases e; exact .base (.dK (s _ _ h))
    | dT h => cases e; exact .base (.dT (s _ _ h))
  | byt b => cases e; exact .byt b
  | set h => cases e; exact .set (s _ _ h)
  | kList h c => cases e; exact .kList h c
  | kTuple h c => cases e; exact .kTuple h c
  | kDict h c => cases e; exact .kDict h c
  | fTuple h => cases e; exact .fTuple (s _ _ h)
  | fDict h => cases e; exact .fDict (s _ _ h)
theorem bls_all (xs : List V) (f : V → Bool) : xs.map (fun x => V.bl (f x)) = (xs.map f).map V.bl := by rw [List.map_map]; rfl
theorem all_id (xs : List V) (f : V → Bool) : (xs.map f).all id = xs.all f := by rw [List.all_map]; rfl
theorem fn_are_numbers (T : Tx K mg) : Fn P w K mg base "are_numbers" 2 (sp_are_numbers K) := by
  obtain ⟨fd, F⟩ := T.d_are_numbers
  refine ⟨_, fd, _, F.ok (CX := CX0) sc_are_numbers (fun vs H Q E h => ?_) (fun cdv A outer s H vs Q E hr h => ?_), T.g_are_numbers, F.kp, F.bindsN fun _ _ _ _ _ _ us hl => match us, hl with | [_], _ => rfl⟩
  · obtain ⟨v, rfl, _⟩ := h; rfl
  · obtain ⟨v, rfl, h⟩ := h
    refine ⟨_, PSs.nox (pss_one (ps_ret (pe_and (pe_callB (show CallR _ _ (rIsi K) from call_isi) (by rfl) T.isinstance (by decide +kernel) (pa_cons (pv 0) (pa_cons (pe_gt (n := "list") T.list (by rfl) (by decide +kernel)) pa_nil))) (pe_one (pe_callB (show CallR _ _ (rAll K) from cr_all (by rfl)) (by rfl) T.all (by decide +kernel) (pa_cons (pe_lc (own := [("one", 1)]) (g := (gName 1)) (tt := tYes) (by rfl) sc_are_numbers.nd (show PI _ _ _ (iList K _) from pi_list (pv 0)) (blkOk_by (by kernel_rfl)) (fun _ _ _ _ _ => (pg_name (i := 1) sc_are_numbers.nd rfl (by first | exact Or.inl rfl | exact Or.inr rfl))) (fun _ _ _ _ _ => pts_nil) (fun _ _ _ _ _ => (pe_fn (fn_is_whole T) (hr.mono (by first | decide | omega)) (by rfl) (pa_cons (pv 1) pa_nil)))) pa_nil)))))), ?_⟩
    rcases h with ⟨a, xs, rfl, hs, hl, ht, q⟩ | ⟨t, ht, hn, q⟩
    · refine ⟨_, rfl, _, _, _, _, _, rfl, .ty _, kd_list hs, (kit_kd (kd_list hs)).2.2.1, _, rfl, iteT ?_⟩
      refine ⟨_, rfl, a, rfl, ⟨_, hs⟩, fun D nD => lc_map (fun x => .bl (isInt x)) hs nD hl ?_ ?_ gname_mono⟩
      · intro i x H1 hx s1 k hk
        refine ⟨rfl, _, rfl, ?_⟩
        obtain ⟨t, ht⟩ := ht x (List.mem_of_getElem? hx)
        exact ⟨x, t, rfl, kd_mono s1 ht, hk _ (Same.refl _)⟩
      · intro H1 s1 hD
        refine ⟨_, xs.map isInt, rfl, SqL.of (by rw [← bls_all]; exact hD), ?_⟩
        rw [all_id]
        exact q _ s1
    · refine ⟨_, rfl, _, _, _, _, _, rfl, .ty _, ht, (kit_kd ht).2.2.1, _, rfl, ?_⟩
      rw [show (t == "list") = false from beq_eq_false_iff_ne.mpr hn]
      exact iteF q
end
end Song

/-! ### Ev2: counts, singers, rounds, turns -/
namespace Song
open PySem L2
/-! #### plain functions -/
/-- rising, each below the next -/
def rising : List Int → Bool
  | [] => true
  | [_] => true
  | a :: b :: r => decide (a < b) && rising (b :: r)
def areSingers (ns : List Int) (many : Int) : Bool := decide (1 ≤ ns.length ∧ ns.length ≤ 3) && ns.all (fun n => decide (0 ≤ n ∧ n < many)) && rising ns
def zipLt (ns : List Int) : List Bool := (ns.zip (ns.drop 1)).map fun p => decide (p.1 < p.2)
theorem zipLt_all : ∀ ns : List Int, (zipLt ns).all id = rising ns
  | [] => rfl
  | [_] => rfl
  | a :: b :: r => by
    have ih := zipLt_all (b :: r)
    unfold zipLt at ih ⊢
    unfold rising
    simp only [List.drop_succ_cons, List.drop_zero, List.zip_cons_cons, List.map_cons, List.all_cons, id] at ih ⊢
    rw [ih]
/-- 0 <= x < many -/
def inR (many : Int) : V → Bool
  | .int n => decide (0 ≤ n) && decide (n < many)
  | _ => false
theorem inR_all (many : Int) (ns : List Int) : (ns.map V.int).all (inR many) = ns.all fun n => decide (0 ≤ n ∧ n < many) := by
  rw [List.all_map]
  congr 1
  funext n
  show (decide (0 ≤ n) && decide (n < many)) = _
  rw [Bool.decide_and]
theorem int_at {ns : List Int} {i : Nat} {x : V} (h : (ns.map V.int)[i]? = some x) : ∃ n, x = .int n ∧ ns[i]? = some n := by
  rw [List.getElem?_map] at h
  cases e : ns[i]? with
  | none => rw [e] at h; cases h
  | some n => rw [e] at h; exact ⟨n, (Option.some.inj h).symm, rfl⟩
theorem cut1 (ns : List Int) : cutV (ns.map V.int) (some 1) none = (ns.drop 1).map V.int := by
  unfold cutV
  cases ns with
  | nil => rfl
  | cons a r =>
    have e1 : HT.sIx ((a :: r).map V.int).length 0 (some 1) = 1 := by
      show HT.sIx _ 0 (some 1) = 1
      simp [HT.sIx]
    have e2 : HT.sIx ((a :: r).map V.int).length ((a :: r).map V.int).length none = ((a :: r).map V.int).length := rfl
    rw [e1, e2, List.take_of_length_le (by simp), ← List.map_drop]
theorem zip_vals (ns : List Int) : (List.range (min (ns.map V.int).length ((ns.drop 1).map V.int).length)).filterMap (fun i => ((ns.zip (ns.drop 1))[i]?).map fun p => V.bl (decide (p.1 < p.2))) = (zipLt ns).map V.bl := by
  have e : min (ns.map V.int).length ((ns.drop 1).map V.int).length = (ns.zip (ns.drop 1)).length := by simp
  rw [e, range_map]
  unfold zipLt
  rw [List.map_map]
  rfl
section
variable {P : Program} {w : World} {K : PySem.W.Frag} {mg : Str → Option Value} {base : Heap}
theorem sc_check_many : FnScope ["many"] ["many"] (defScope s_check_many) := ⟨rfl, rfl, rfl, by decide +kernel, rfl, by decide +kernel, by decide +kernel⟩
def sp_check_many : Sp := fun vs H Q _ => ∃ n : Int, vs = [.int n] ∧ 1 ≤ n ∧ n ≤ 6 ∧ Q .non H
theorem fn_check_many (T : Tx K mg) : Fn P w K mg base "check_many" 2 sp_check_many := by
  obtain ⟨fd, F⟩ := T.d_check_many
  refine ⟨_, fd, _, F.ok (CX := CX0) sc_check_many (fun vs H Q E h => ?_) (fun cdv A outer s H vs Q E hr h => ?_), T.g_check_many, F.kp, F.bindsN fun _ _ _ _ _ _ us hl => match us, hl with | [_], _ => rfl⟩
  · obtain ⟨n, rfl, _⟩ := h; rfl
  · obtain ⟨n, rfl, h1, h6, q⟩ := h
    refine ⟨_, PSs.nox (pss_one (ps_if (PW.pt (pw_or (pt_not (pt_val (pe_fn (fn_is_whole T) (hr.mono (by first | decide | omega)) (by rfl) (pa_cons (pv 0) pa_nil)))) (pw_or1 (pt_not (pt_chain op_le op_le pe_int (pv 0) (pe_gi T.c_MOST_SINGERS (by rfl))))))) (pss_one ps_never) pss_nil)), ?_⟩
    refine ⟨_, rfl, _, _, rfl, kd_int n, _, rfl, iteF ?_⟩
    refine ⟨_, rfl, _, _, rfl, rfl, _, rfl, ?_⟩
    rw [decide_eq_true h1]
    refine iteT ⟨_, _, rfl, rfl, _, rfl, ?_⟩
    rw [decide_eq_true h6]
    exact iteF q
theorem sc_are_singers : FnScope ["thing", "many", "one", "other"] ["thing", "many"] (defScope s_are_singers) := ⟨rfl, rfl, rfl, by decide +kernel, rfl, by decide +kernel, by decide +kernel⟩
def sp_are_singers (K : PySem.W.Frag) : Sp := fun vs H Q _ => ∃ (a : Addr) (ns : List Int) (many : Int), vs = [.ref a, .int many] ∧ SqL K H a (ns.map V.int) ∧ ns.length ≤ 1000 ∧ ∀ H', Same H H' → Q (.bl (areSingers ns many)) H'
theorem fn_are_singers (T : Tx K mg) : Fn P w K mg base "are_singers" 3 (sp_are_singers K) := by
  obtain ⟨fd, F⟩ := T.d_are_singers
  refine ⟨_, fd, _, F.ok (CX := CX0) sc_are_singers (fun vs H Q E h => ?_) (fun cdv A outer s H vs Q E hr h => ?_), T.g_are_singers, F.kp, F.bindsN fun _ _ _ _ _ _ us hl => match us, hl with | [_, _], _ => rfl⟩
  · obtain ⟨a, ns, many, rfl, _⟩ := h; rfl
  · obtain ⟨a, ns, many, rfl, hs, hl, q⟩ := h
    refine ⟨_, PSs.nox (pss_cons (ps_if (PW.pt (pw_or (pt_not (pt_val (pe_fn (fn_are_numbers T) (hr.mono (by first | decide | omega)) (by rfl) (pa_cons (pv 0) pa_nil)))) (pw_or1 (pt_not (pt_chain op_le op_le pe_int (pe_callB (show CallR _ _ (rLenQ K) from call_len_seq) (by rfl) T.len (by decide +kernel) (pa_cons (pv 0) pa_nil)) (pe_gi T.c_MOST_OF_SONG (by rfl))))))) (pss_one (ps_ret pe_bl)) pss_nil)
      (pss_cons (ps_if (pt_not (pt_val (pe_callB (show CallR _ _ (rAll K) from cr_all (by rfl)) (by rfl) T.all (by decide +kernel) (pa_cons (pe_lc (own := [("one", 2)]) (g := (gName 2)) (tt := tYes) (by rfl) sc_are_singers.nd (show PI _ _ _ (iList K _) from pi_list (pv 0)) (blkOk_by (by kernel_rfl)) (fun _ _ _ _ _ => (pg_name (i := 2) sc_are_singers.nd rfl (by first | exact Or.inl rfl | exact Or.inr rfl))) (fun _ _ _ _ _ => pts_nil) (fun _ _ _ _ _ => (pe_chain op_le op_lt pe_int (pv 2) (pv 1)))) pa_nil)))) (pss_one (ps_ret pe_bl)) pss_nil)
      (pss_one (ps_ret (pe_callB (show CallR _ _ (rAll K) from cr_all (by rfl)) (by rfl) T.all (by decide +kernel) (pa_cons (pe_lc (own := [("one", 2), ("other", 3)]) (g := (gTup K 2 (gCons (gName 2) (gCons (gName 3) gNil)))) (tt := tYes) (by rfl) sc_are_singers.nd (show PI _ _ _ (iZip K _) from pi_zip (by rfl) T.zip (pa_cons (pv 0) (pa_cons (pe_slice (show SlR _ (rSlL K) from sl_list) (pv 0) (po_some pe_int) po_none) pa_nil))) (blkOk_by (by kernel_rfl)) (fun _ _ _ _ _ => (show PG _ _ (gTup K _ _) from pg_tup rfl (pgs_cons (pg_name (i := 2) sc_are_singers.nd rfl (by first | exact Or.inl rfl | exact Or.inr rfl)) (pgs_cons (pg_name (i := 3) sc_are_singers.nd rfl (by first | exact Or.inl rfl | exact Or.inr rfl)) pgs_nil)))) (fun _ _ _ _ _ => pts_nil) (fun _ _ _ _ _ => (pe_cmpR op_lt (pv 2) (pv 3) (nomark _)))) pa_nil)))))), ?_⟩
    have hlV : (ns.map V.int).length ≤ 1000 := by rw [List.length_map]; exact hl
    have allI : (ns.map V.int).all isInt = true := by
      rw [List.all_map, List.all_eq_true]; intro x _; rfl
    refine ⟨_, rfl, _, rfl, .inl ⟨a, _, rfl, hs, hlV, fun x hx => ?_, fun H1 s1 => ?_⟩⟩
    · obtain ⟨i, _, rfl⟩ := List.mem_map.mp hx
      exact ⟨_, kd_int i⟩
    rw [allI]
    refine ⟨_, rfl, iteF ?_⟩
    refine ⟨_, rfl, a, _, rfl, .inl (s1.seq hs), _, _, rfl, rfl, _, rfl, ?_⟩
    rw [List.length_map]
    by_cases h1 : (1 : Int) ≤ (ns.length : Int)
    case neg =>
      have e0 : areSingers ns many = false := by
        unfold areSingers
        rw [decide_eq_false (by omega)]; rfl
      rw [decide_eq_false h1]
      refine iteF ⟨_, rfl, iteT ?_⟩
      rw [e0] at q
      exact q _ s1
    rw [decide_eq_true h1]
    refine iteT ⟨_, _, rfl, rfl, _, rfl, ?_⟩
    by_cases h3 : (ns.length : Int) ≤ 3
    case neg =>
      have e0 : areSingers ns many = false := by
        unfold areSingers
        rw [decide_eq_false (by omega)]; rfl
      rw [decide_eq_false h3]
      rw [e0] at q
      exact iteT (q _ s1)
    rw [decide_eq_true h3]
    refine iteF ?_
    refine ⟨_, rfl, a, rfl, ⟨_, s1.seq hs⟩, fun D nD => lc_map (fun x => .bl (inR many x)) (s1.seq hs) nD hlV ?_ ?_ gname_mono⟩
    · intro i x H2 hx s2 k hk
      obtain ⟨n, rfl, _⟩ := int_at hx
      refine ⟨rfl, _, rfl, _, _, rfl, rfl, _, rfl, ?_⟩
      have hk2 : k (.bl (decide (0 ≤ n) && decide (n < many))) H2 := hk H2 (Same.refl _)
      by_cases h0 : (0 : Int) ≤ n
      · rw [decide_eq_true h0] at hk2 ⊢
        exact iteT ⟨_, rfl, _, _, rfl, rfl, hk2⟩
      · rw [decide_eq_false h0] at hk2 ⊢
        exact iteF hk2
    intro H2 s2 hD
    refine ⟨_, (ns.map V.int).map (inR many), rfl, SqL.of (by rw [← bls_all]; exact hD), _, rfl, ?_⟩
    rw [all_id, inR_all]
    by_cases hA : (ns.all fun n => decide (0 ≤ n ∧ n < many)) = true
    case neg =>
      have e0 : areSingers ns many = false := by
        unfold areSingers
        rw [Bool.eq_false_iff.mpr hA, Bool.and_false]; rfl
      rw [Bool.eq_false_iff.mpr hA]
      rw [e0] at q
      exact iteT (q _ (s1.trans s2))
    rw [hA]
    refine iteF ?_
    have hs2 := (s1.trans s2).seq hs
    refine ⟨_, rfl, _, rfl, _, rfl, a, _, rfl, hs2, fun p np => ?_⟩
    refine to_new np fun H3 s3 hp => ?_
    rw [cut1] at hp
    refine ⟨a, p, _, _, rfl, s3.seq hs2, SqL.of hp, fun D nD => lc_pure (walk_zip rfl) sqL2_mono ⟨s3.seq hs2, SqL.of hp⟩ (fun i => ((ns.zip (ns.drop 1))[i]?).map fun p => V.bl (decide (p.1 < p.2))) nD (by simp; omega) ?_ ?_⟩
    · rintro i v H4 H5 hi s4 ⟨t, x, y, rfl, nt, rfl, hx, hy⟩ k kn hk _
      obtain ⟨n, rfl, hn⟩ := int_at hx
      obtain ⟨m, rfl, hm⟩ := int_at hy
      refine ⟨t, _, rfl, SqT.of upd_same, rfl, _, _, rfl, _, _, rfl, rfl, rfl, yes_of ?_⟩
      refine ⟨_, rfl, _, rfl, _, _, rfl, rfl, ?_⟩
      refine hk _ _ ?_ (Same.new nt)
      have e : (ns.zip (ns.drop 1))[i]? = some (n, m) := by rw [List.getElem?_zip_eq_some]; exact ⟨hn, hm⟩
      rw [e]
      rfl
    · intro H4 s4 hD4
      rw [zip_vals] at hD4
      refine ⟨_, zipLt ns, rfl, SqL.of hD4, ?_⟩
      rw [zipLt_all]
      have e : areSingers ns many = rising ns := by
        unfold areSingers
        rw [hA, decide_eq_true (by omega)]; rfl
      rw [← e]
      exact q _ (((s1.trans s2).trans s3).trans s4)
end
end Song

/-! ### Ut: small things used everywhere -/
namespace Song
open PySem L2
theorem at_int {ls : List Int} {s : Int} (h0 : 0 ≤ s) (h1 : s < ls.length) : atI (ls.map V.int) s = some (.int (ls.getD s.toNat 0)) := by
  obtain ⟨j, rfl⟩ := Int.eq_ofNat_of_zero_le h0
  have hj : j < ls.length := by omega
  refine atI_nat ?_
  rw [List.getElem?_map, List.getElem?_eq_getElem hj]
  simp [List.getD_eq_getElem?_getD, List.getElem?_eq_getElem hj]
theorem max_ite (i j : Int) : (if j > i then j else i) = max i j := by
  split <;> omega
/-- all of ss are places of a list so long -/
def InB (n : Nat) (ss : List Int) : Prop := ∀ s ∈ ss, 0 ≤ s ∧ s < (n : Int)
theorem off_put {S : List Addr} {H : Hp} {a : Addr} {o : HO} (h : a ∈ S) : off S (upd H a o) = off S H := by
  funext b
  by_cases q : b ∈ S
  · rw [off_in q, off_in q]
  · rw [off_out q, off_out q, upd_ne (fun z => q (by rw [z]; exact h))]
theorem new_out {S : List Addr} {H : Hp} {t : Addr} (dom : ∀ a ∈ S, ∃ o, H a = some o) (nt : H t = none) : t ∉ S := fun q => by
  obtain ⟨o, h⟩ := dom t q
  rw [nt] at h; cases h
theorem dom_put {S : List Addr} {H : Hp} {b : Addr} {o : HO} (dom : ∀ a ∈ S, ∃ o, H a = some o) : ∀ a ∈ S, ∃ o', upd H b o a = some o' := fun a ha => by
  by_cases e : a = b
  · rw [e]; exact ⟨o, upd_same⟩
  · rw [upd_ne e]; exact dom a ha
theorem dom_same {S : List Addr} {H H' : Hp} (s : Same H H') (dom : ∀ a ∈ S, ∃ o, H a = some o) : ∀ a ∈ S, ∃ o', H' a = some o' := fun a ha => by
  obtain ⟨o, h⟩ := dom a ha
  exact ⟨o, s _ _ h⟩
theorem rep_flat (n : Nat) : (List.replicate n [V.int 0]).flatten = List.replicate n (V.int 0) := by
  induction n with
  | zero => rfl
  | succ n ih => rw [List.replicate_succ, List.flatten_cons, ih]; rfl
theorem rep_ints (n : Nat) : (List.replicate n (V.int 0)) = (List.replicate n (0 : Int)).map V.int := by rw [List.map_replicate]
theorem Fra.le {S S' : List Addr} {H H' : Hp} (f : Fra S' H H') (sub : ∀ a ∈ S', a ∈ S) : Same (Song.off S H) H' := fun b o h => by
  obtain ⟨q, h⟩ := off_some h
  exact f b o (fun z => q (sub b z)) h
theorem ixN_of {n : Nat} {s : Int} (h0 : 0 ≤ s) (h1 : s < (n : Int)) : ixN n s = some s.toNat := by
  unfold ixN
  rw [if_pos h0, if_pos h1]
theorem areS_len {ss : List Int} {m : Int} (h : areSingers ss m = true) : 1 ≤ ss.length ∧ ss.length ≤ 3 ∧ (∀ s ∈ ss, 0 ≤ s ∧ s < m) ∧ rising ss = true := by
  unfold areSingers at h
  simp only [Bool.and_eq_true, decide_eq_true_eq, List.all_eq_true] at h
  exact ⟨h.1.1.1, h.1.1.2, h.1.2, h.2⟩
theorem snoc_ints (ns : List Int) (n : Int) : (ns ++ [n]).map V.int = ns.map V.int ++ [V.int n] := by rw [List.map_append]; rfl
theorem lt_line {n : Nat} (h : n ≤ 1000) : n < sizeLine := Nat.lt_of_le_of_lt h (by decide)
theorem nodup_len : ∀ {n : Nat} {ws : List Int}, InB n ws → ws.Nodup → ws.length ≤ n
  | 0, [], _, _ => Nat.le_refl _
  | 0, w :: r, h, _ => by have := h w (by simp); omega
  | n + 1, ws, h, nd => by
    have h1 : InB n (ws.erase (n : Int)) := fun s hs => by
      have h2 := h s (List.mem_of_mem_erase hs)
      have h3 : s ≠ (n : Int) := fun e => by
        rw [e] at hs
        exact (nd.not_mem_erase) hs
      omega
    have h2 := nodup_len h1 (nd.erase _)
    have h3 := List.length_erase (a := (n : Int)) (l := ws)
    split at h3 <;> omega
def optV : Option Int → V
  | none => .non
  | some n => .int n
def optD : Option Int → PyData
  | none => .none
  | some n => .int n
def Shp (k : Nat) (d : PyData) : Prop := d.canLay0 = true ∧ d.depth ≤ k
theorem shp_all {k : Nat} : ∀ {xs : List PyData}, (∀ x ∈ xs, Shp k x) → PyData.canLayAll0 xs = true ∧ PyData.depthAll xs ≤ k
  | [], _ => ⟨rfl, Nat.zero_le _⟩
  | x :: xs, h => by
    obtain ⟨h1, h2⟩ := h x (by simp)
    obtain ⟨h3, h4⟩ := shp_all (xs := xs) fun y hy => h y (by simp [hy])
    refine ⟨by rw [PyData.canLayAll0, h1, h3]; rfl, ?_⟩
    rw [PyData.depthAll]
    exact Nat.max_le.mpr ⟨h2, h4⟩
theorem shp_list {k : Nat} {xs : List PyData} (h : ∀ x ∈ xs, Shp k x) : Shp (k + 1) (.list xs) := by
  obtain ⟨h1, h2⟩ := shp_all h
  refine ⟨by rw [PyData.canLay0]; exact h1, ?_⟩
  rw [PyData.depth]
  omega
theorem shp_tuple {k : Nat} {xs : List PyData} (h : ∀ x ∈ xs, Shp k x) : Shp (k + 1) (.tuple xs) := by
  obtain ⟨h1, h2⟩ := shp_all h
  refine ⟨by rw [PyData.canLay0]; exact h1, ?_⟩
  rw [PyData.depth]
  omega
theorem shp_int {k : Nat} (i : Int) : Shp (k + 1) (.int i) := ⟨by rw [PyData.canLay0], by rw [PyData.depth] <;> omega⟩
theorem Shp.mono {k m : Nat} {d : PyData} (h : Shp k d) (hk : k ≤ m) : Shp m d := ⟨h.1, Nat.le_trans h.2 hk⟩
theorem Shp.ok {k : Nat} {d : PyData} (h : Shp k d) (hk : k ≤ 64 := by decide) : SeqAt.shaped d = true := by
  unfold SeqAt.shaped
  rw [h.1, decide_eq_true (Nat.le_trans h.2 hk)]; rfl
theorem shp_ints (ns : List Int) : Shp 2 (.list (ns.map PyData.int)) := shp_list fun x hx => by
  obtain ⟨i, _, rfl⟩ := List.mem_map.mp hx
  exact shp_int i
theorem shp_optD (o : Option Int) : Shp 1 (optD o) := by
  cases o with
  | none => exact ⟨by unfold optD; rw [PyData.canLay0], by unfold optD; rw [PyData.depth] <;> omega⟩
  | some n => exact shp_int n
theorem shp_word {x : Str} (h : PyData.canLay0 (.str x) = true) {k : Nat} : Shp (k + 1) (.str x) := ⟨h, by rw [PyData.depth] <;> omega⟩
theorem eqv_self {k : Nat} {d : PyData} (h : Shp k d) : PyData.eqv d d = true := PySem.SeqAt.eqv_refl d h.1
theorem eqv_nil (ns : List Int) : PyData.eqv (.list (ns.map PyData.int)) (.list []) = ns.isEmpty := by
  cases ns with
  | nil => rfl
  | cons a r => rfl
theorem shp_nil : Shp 1 (.list []) := shp_list (k := 0) fun x hx => by cases hx
theorem inV_ints (n : Int) (ns : List Int) : inV (.int n) (ns.map V.int) = decide (n ∈ ns) := by
  unfold inV
  rw [List.any_map]
  induction ns with
  | nil => rfl
  | cons a r ih =>
    rw [List.any_cons, ih]
    show ((a == n) || _) = _
    by_cases e : a = n
    · subst e; simp
    · have : n ≠ a := fun z => e z.symm
      simp [e, this]
theorem flat_ints (ns : List Int) : (ns.map V.int).all flatV = true := by
  rw [List.all_map, List.all_eq_true]; intro x _; rfl
theorem dp_opt {K : PySem.W.Frag} {H : Hp} (o : Option Int) : Dp K H (optV o) (optD o) := by
  cases o with
  | none => exact .non
  | some n => exact .int n
theorem cut63 {ns : List Int} (h : ns.length ≤ 63) : cutV (ns.map V.int) none (some 63) = ns.map V.int := by
  unfold cutV
  have e1 : HT.sIx (ns.map V.int).length 0 none = 0 := rfl
  have e2 : HT.sIx (ns.map V.int).length (ns.map V.int).length (some 63) = (ns.map V.int).length := by
    simp only [HT.sIx]
    rw [if_neg (by decide), List.length_map]
    have : (63 : Int).toNat = 63 := rfl
    omega
  rw [e1, e2]
  exact List.take_of_length_le (by simp)
/-- the making of an evening, seen from ahead of it -/
theorem made_same {H H' : Hp} {x dx : Addr} {o o' : HO} (nx : H x = none) (ndx : H dx = none) (f : Fra [x] (upd (upd H dx o) x o') H') : Same H H' := fun b o2 e => by
  have n1 : b ≠ x := ne_of_none e nx
  have n2 : b ≠ dx := ne_of_none e ndx
  refine f.one n1 ?_
  rw [upd_ne n1, upd_ne n2]
  exact e
theorem made_free {H : Hp} {x dx a : Addr} {o o' : HO} (h : upd (upd H dx o) x o' a = none) : H a = none := by
  have n1 : a ≠ x := fun e => by rw [e, upd_same] at h; cases h
  rw [upd_ne n1] at h
  have n2 : a ≠ dx := fun e => by rw [e, upd_same] at h; cases h
  rw [upd_ne n2] at h
  exact h
theorem sqT_mono {K : PySem.W.Frag} {a : Addr} {xs : List V} (H H' : Hp) (s : Same H H') (h : SqT K H a xs) : SqT K H' a xs := Same.sqT s h
/-- over a tuple -/
theorem lc_mapT {g : TG} {te : TE} {vs : List Nat} {σ : L2.St} {H1 : Hp} {D : Addr} {Qd : Hp → Prop} {K : PySem.W.Frag} {a : Addr} {xs : List V} (f : V → V) (hSq : SqT K H1 a xs) (nD : H1 D = none) (hlen : xs.length ≤ 1000)
    (hs : ∀ (i : Nat) x H, xs[i]? = some x → Same H1 H → ∀ k : V → Hp → Prop, (∀ H', Same H H' → k (f x) H') → g x (wipe σ vs) H fun σ2 H2 => wipe σ2 vs = wipe σ vs ∧ te σ2 H2 k)
    (hd : ∀ H, Same H1 H → H D = some (.lst (xs.map f)) → Qd H)
    (hg : ∀ x σ H Q Q', (∀ σ2 H2, Q σ2 H2 → Q' σ2 H2) → g x σ H Q → g x σ H Q') : LcAsks (Itt K a) g tYes te vs σ H1 D Qd := by
  refine lc_pure walk_tup sqT_mono hSq (fun i => xs[i]?.map f) nD hlen (fun i x H H' hi s hY k kn hk _ => ?_) (fun H s hD => hd H s (by rw [← range_map]; exact hD))
  obtain ⟨rfl, hx⟩ := hY
  refine hg _ _ _ _ _ (fun σ2 H2 h => ?_) (hs i x H' hx s k fun H2 s2 => hk _ H2 (by rw [hx]; rfl) s2)
  exact ⟨h.1, yes_of h.2⟩
theorem eqv_ints (ns : List Int) : PyData.eqv (.list (ns.map PyData.int)) (.list (ns.map PyData.int)) = true := eqv_self (shp_ints ns)
theorem eqvI_all : ∀ xs ys : List Int, PyData.eqvAll (xs.map PyData.int) (ys.map PyData.int) = decide (xs = ys)
  | [], [] => rfl
  | [], _ :: _ => rfl
  | _ :: _, [] => rfl
  | a :: r, b :: t => by
    show ((a == b) && PyData.eqvAll (r.map PyData.int) (t.map PyData.int)) = _
    rw [eqvI_all r t]
    by_cases h : a = b
    · subst h
      rw [beq_self_eq_true, Bool.true_and]
      exact decide_eq_decide.mpr ⟨fun e => by rw [e], fun e => by injection e⟩
    · rw [beq_eq_false_iff_ne.mpr h, Bool.false_and, decide_eq_false (fun e => h (by injection e))]
theorem eqv_intsD (xs ys : List Int) : PyData.eqv (.list (xs.map PyData.int)) (.list (ys.map PyData.int)) = decide (xs = ys) := eqvI_all xs ys
theorem rising_of : ∀ {ns : List Int}, ns.Pairwise (· < ·) → rising ns = true
  | [], _ => rfl
  | [_], _ => rfl
  | a :: b :: r, h => by
    obtain ⟨h1, h2⟩ := List.pairwise_cons.mp h
    unfold rising
    rw [decide_eq_true (h1 b (by simp)), rising_of h2]; rfl
theorem areS_of {ns : List Int} {m : Int} (h1 : 1 ≤ ns.length) (h3 : ns.length ≤ 3) (hi : ∀ s ∈ ns, 0 ≤ s ∧ s < m) (hr : rising ns = true) : areSingers ns m = true := by
  unfold areSingers
  rw [decide_eq_true (And.intro h1 h3), hr, List.all_eq_true.mpr fun s hs => decide_eq_true (hi s hs)]; rfl
theorem areS_take {ns : List Int} {m : Int} (h : areSingers ns m = true) : areSingers (ns.take 1) m = true := by
  obtain ⟨h1, h3, hi, hr⟩ := areS_len h
  cases ns with
  | nil => simp at h1
  | cons a r => exact areS_of (by simp) (by simp) (fun s hs => hi s (by simp at hs; simp [hs])) rfl
theorem cut_to1 (ns : List Int) : cutV (ns.map V.int) none (some 1) = (ns.take 1).map V.int := by
  unfold cutV
  cases ns with
  | nil => rfl
  | cons a r =>
    have e1 : HT.sIx ((a :: r).map V.int).length 0 none = 0 := rfl
    have e2 : HT.sIx ((a :: r).map V.int).length ((a :: r).map V.int).length (some 1) = 1 := by simp [HT.sIx]
    rw [e1, e2]; rfl
theorem cut_ints (ns : List Int) {b e : Int} (hb : 0 ≤ b) (he : 0 ≤ e) : ∃ ms : List Int, cutV (ns.map V.int) (some b) (some e) = ms.map V.int ∧ ms.length ≤ (e - b).toNat ∧ ∀ z ∈ ms, z ∈ ns := by
  unfold cutV
  refine ⟨(ns.drop (HT.sIx (ns.map V.int).length 0 (some b))).take (HT.sIx (ns.map V.int).length (ns.map V.int).length (some e) - HT.sIx (ns.map V.int).length 0 (some b)), ?_, ?_, ?_⟩
  · rw [← List.map_drop, ← List.map_take]
  · rw [List.length_take, List.length_drop]
    have e1 : ∀ (n d : Nat) (x : Int), 0 ≤ x → HT.sIx n d (some x) = min x.toNat n := fun n d x hx => by
      simp only [HT.sIx]
      rw [if_neg (by omega)]
    rw [e1 _ _ _ hb, e1 _ _ _ he, List.length_map]
    omega
  · intro z hz
    exact List.mem_of_mem_drop (List.mem_of_mem_take hz)
theorem eqv_pair (a b c d : Int) : PyData.eqv (.tuple [.int a, .int b]) (.tuple [.int c, .int d]) = decide (a = c ∧ b = d) := by
  show ((a == c) && ((b == d) && true)) = _
  by_cases h1 : a = c <;> by_cases h2 : b = d <;> simp [h1, h2]
theorem eqv_opt (o o' : Option Int) : PyData.eqv (optD o) (optD o') = decide (o = o') := by
  cases o with
  | none =>
    cases o' with
    | none => rfl
    | some n => rfl
  | some m =>
    cases o' with
    | none => rfl
    | some n =>
      show (m == n) = _
      by_cases h : m = n <;> simp [h]
theorem shp_pair (a b : Int) : Shp 2 (.tuple [.int a, .int b]) := shp_tuple fun x hx => by
  simp only [List.mem_cons, List.not_mem_nil, or_false] at hx
  rcases hx with rfl | rfl <;> exact shp_int _
theorem cut_head (vs : List V) (n : Nat) : cutV vs none (some (n : Int)) = vs.take n := by
  unfold cutV
  have e1 : HT.sIx vs.length 0 none = 0 := rfl
  have e2 : HT.sIx vs.length vs.length (some (n : Int)) = min n vs.length := by
    simp only [HT.sIx]
    rw [if_neg (by omega)]
    rfl
  rw [e1, e2, List.drop_zero]
  by_cases h : n ≤ vs.length
  · rw [Nat.min_eq_left h]; rfl
  · rw [Nat.min_eq_right (by omega), List.take_of_length_le (by omega), List.take_of_length_le (by omega)]
theorem cut_tail (vs : List V) (n : Nat) : cutV vs (some (n : Int)) none = vs.drop n := by
  unfold cutV
  have e1 : HT.sIx vs.length 0 (some (n : Int)) = min n vs.length := by
    simp only [HT.sIx]
    rw [if_neg (by omega)]
    rfl
  have e2 : HT.sIx vs.length vs.length none = vs.length := rfl
  rw [e1, e2]
  by_cases h : n ≤ vs.length
  · rw [Nat.min_eq_left h]
    exact List.take_of_length_le (by rw [List.length_drop]; omega)
  · rw [Nat.min_eq_right (by omega), List.drop_of_length_le (show vs.length ≤ n by omega), List.drop_length]
    exact List.take_nil
@[elab_as_elim] theorem to_made {H : Hp} {x dx : Addr} {o o' : HO} {Q : Hp → Prop} (nx : H x = none) (ndx : H dx = none) (h : ∀ H', Same H H' → H' x = some o' → Q H') : Q (upd (upd H dx o) x o') :=
  h _ (made_same (o := o) (o' := o') nx ndx (Fra.refl _ _)) upd_same
theorem pw_of : ∀ {ns : List Int}, rising ns = true → ns.Pairwise (· < ·)
  | [], _ => .nil
  | [_], _ => List.pairwise_singleton _ _
  | a :: b :: r, h => by
    unfold rising at h
    rw [Bool.and_eq_true] at h
    have h1 := of_decide_eq_true h.1
    have ih := pw_of h.2
    refine List.pairwise_cons.mpr ⟨fun x hx => ?_, ih⟩
    rcases List.mem_cons.mp hx with e | e
    · rw [e]; exact h1
    · exact Int.lt_trans h1 ((List.pairwise_cons.mp ih).1 x e)
/-- two rising lists of the same members are one -/
theorem pw_ext : ∀ {xs ys : List Int}, xs.Pairwise (· < ·) → ys.Pairwise (· < ·) → (∀ z, z ∈ xs ↔ z ∈ ys) → xs = ys
  | [], [], _, _, _ => rfl
  | [], b :: _, _, _, h => by have := (h b).mpr (by simp); cases this
  | a :: _, [], _, _, h => by have := (h a).mp (by simp); cases this
  | a :: r, b :: t, h1, h2, h => by
    obtain ⟨p1, q1⟩ := List.pairwise_cons.mp h1
    obtain ⟨p2, q2⟩ := List.pairwise_cons.mp h2
    have e : a = b := by
      have m1 := (h a).mp (by simp)
      have m2 := (h b).mpr (by simp)
      rcases List.mem_cons.mp m1 with e | e
      · exact e
      · rcases List.mem_cons.mp m2 with e2 | e2
        · exact e2.symm
        · have := p1 b e2; have := p2 a e; omega
    subst e
    rw [pw_ext q1 q2 fun z => ⟨fun m => ?_, fun m => ?_⟩]
    · rcases List.mem_cons.mp ((h z).mp (by simp [m])) with e | e
      · have := p1 z m; omega
      · exact e
    · rcases List.mem_cons.mp ((h z).mpr (by simp [m])) with e | e
      · have := p2 z m; omega
      · exact e
theorem off_free {S : List Addr} {H H' : Hp} (s : Same H H') (n : ∀ a ∈ S, H a = none) : Same H (off S H') := fun b o e => by
  rw [off_out (fun z => by rw [n b z] at e; cases e)]
  exact s _ _ e
theorem dom_fra {S X : List Addr} {H H' : Hp} (f : Fra X H H') (dom : ∀ a ∈ S, ∃ o, H a = some o) (domX : ∀ a ∈ X, ∃ o, H' a = some o) : ∀ a ∈ S, ∃ o, H' a = some o := fun a ha => by
  by_cases e : a ∈ X
  · exact domX a e
  · obtain ⟨o, h⟩ := dom a ha
    exact ⟨o, f a o e h⟩
theorem foldl_take {α β : Type} (f : β → α → β) (b : β) : ∀ (xs : List α) (i : Nat) (x : α), xs[i]? = some x → (xs.take (i + 1)).foldl f b = f ((xs.take i).foldl f b) x := fun xs i x h => by
  obtain ⟨hi, e⟩ := List.getElem?_eq_some_iff.mp h
  rw [List.take_succ_eq_append_getElem hi, List.foldl_append, e]; rfl
end Song

/-! ### Ev3: rounds and turns -/
namespace Song
open PySem L2
section
variable {P : Program} {w : World} {K : PySem.W.Frag} {mg : Str → Option Value} {base : Heap}
theorem sc_floor_of : FnScope ["last", "going", "singer"] ["last", "going", "singer"] (defScope s_floor_of) := ⟨rfl, rfl, rfl, by decide +kernel, rfl, by decide +kernel, by decide +kernel⟩
def sp_floor_of (K : PySem.W.Frag) : Sp := fun vs H Q _ => ∃ (a : Addr) (ls : List Int) (g s : Int), vs = [.ref a, .int g, .int s] ∧ SqL K H a (ls.map V.int) ∧ 0 ≤ s ∧ s < (ls.length : Int) ∧ Q (.int (floorOf ls g s)) H
theorem fn_floor_of (T : Tx K mg) : Fn P w K mg base "floor_of" 1 (sp_floor_of K) := by
  obtain ⟨fd, F⟩ := T.d_floor_of
  refine ⟨_, fd, _, F.ok (CX := CX0) sc_floor_of (fun vs H Q E h => ?_) (fun cdv A outer s H vs Q E hr h => ?_), T.g_floor_of, F.kp, F.bindsN fun _ _ _ _ _ _ us hl => match us, hl with | [_, _, _], _ => rfl⟩
  · obtain ⟨a, ls, g, s, rfl, _⟩ := h; rfl
  · obtain ⟨a, ls, g, s, rfl, hs, h0, h1, q⟩ := h
    refine ⟨_, PSs.nox (pss_one (ps_ret (pe_callB (call_max2 (by rfl)) (by rfl) T.max (by decide +kernel) (pa_cons (pv 1) (pa_cons (pe_op op_add (pe_ix (show IxR _ (rIxL K) from ix_list) (pv 0) (pv 2) (fun _ _ => rfl)) pe_int) pa_nil))))), ?_⟩
    refine ⟨_, rfl, _, rfl, _, rfl, a, _, _, _, rfl, rfl, hs, at_int h0 h1, _, _, rfl, rfl, _, _, rfl, ?_⟩
    rw [max_ite]
    exact q
theorem sc_round_for : FnScope ["last", "going", "singers", "singer"] ["last", "going", "singers"] (defScope s_round_for) := ⟨rfl, rfl, rfl, by decide +kernel, rfl, by decide +kernel, by decide +kernel⟩
def sp_round_for (K : PySem.W.Frag) : Sp := fun vs H Q _ => ∃ (a b : Addr) (ls ss : List Int) (g : Int), vs = [.ref a, .int g, .ref b] ∧ SqL K H a (ls.map V.int) ∧ SqL K H b (ss.map V.int) ∧ InB ls.length ss ∧ ss ≠ [] ∧ ss.length ≤ 1000 ∧
  ∀ H', Same H H' → Q (.int (roundFor ls g ss)) H'
theorem fn_round_for (T : Tx K mg) : Fn P w K mg base "round_for" 2 (sp_round_for K) := by
  obtain ⟨fd, F⟩ := T.d_round_for
  refine ⟨_, fd, _, F.ok (CX := CX0) sc_round_for (fun vs H Q E h => ?_) (fun cdv A outer s H vs Q E hr h => ?_), T.g_round_for, F.kp, F.bindsN fun _ _ _ _ _ _ us hl => match us, hl with | [_, _, _], _ => rfl⟩
  · obtain ⟨a, b, ls, ss, g, rfl, _⟩ := h; rfl
  · obtain ⟨a, b, ls, ss, g, rfl, ha, hb, hi, hn, hl, q⟩ := h
    refine ⟨_, PSs.nox (pss_one (ps_ret (pe_callB (show CallR _ _ (rMax K) from cr_max (by rfl)) (by rfl) T.max (by decide +kernel) (pa_cons (pe_lc (own := [("singer", 3)]) (g := (gName 3)) (tt := tYes) (by rfl) sc_round_for.nd (show PI _ _ _ (iList K _) from pi_list (pv 2)) (blkOk_by (by kernel_rfl)) (fun _ _ _ _ _ => (pg_name (i := 3) sc_round_for.nd rfl (by first | exact Or.inl rfl | exact Or.inr rfl))) (fun _ _ _ _ _ => pts_nil) (fun _ _ _ _ _ => (pe_fn (fn_floor_of T) (hr.mono (by first | decide | omega)) (by rfl) (pa_cons (pv 0) (pa_cons (pv 1) (pa_cons (pv 3) pa_nil)))))) pa_nil)))), ?_⟩
    refine ⟨_, rfl, b, rfl, ⟨_, hb⟩, fun D nD => lc_map (fun x => match x with | .int s => .int (floorOf ls g s) | _ => .non) hb nD (by rw [List.length_map]; exact hl) ?_ ?_ gname_mono⟩
    · intro i x H1 hx s1 k hk
      obtain ⟨s, rfl, hs⟩ := int_at hx
      obtain ⟨h0, h1⟩ := hi s (List.mem_of_getElem? hs)
      exact ⟨rfl, _, rfl, _, rfl, _, rfl, a, ls, g, s, rfl, s1.seq ha, h0, h1, hk _ (Same.refl _)⟩
    · intro H1 s1 hD
      rw [List.map_map] at hD
      refine ⟨_, ss.map (floorOf ls g), rfl, SqL.of (by rw [List.map_map]; exact hD), ?_, fun m hm hle => ?_⟩
      · rw [List.length_map]; exact List.length_pos_iff.mpr hn
      · rw [maxL_eq hm hle]
        exact q _ s1
theorem sc_in_turn : FnScope ["rounds", "waits", "number", "song"] ["rounds", "waits"] (defScope s_in_turn) := ⟨rfl, rfl, rfl, by decide +kernel, rfl, by decide +kernel, by decide +kernel⟩
def sp_in_turn (K : PySem.W.Frag) : Sp := fun vs H Q _ => ∃ (a b : Addr) (rs ws : List Int), vs = [.ref a, .ref b] ∧ SqL K H a (rs.map V.int) ∧ SqL K H b (ws.map V.int) ∧ InB rs.length ws ∧ ws.length ≤ 1000 ∧
  ∀ p H', H p = none → Same H H' → H' p = some (.lst ((inTurn rs ws).map V.int)) → Q (.ref p) H'
/-- what a pair of ints stands for -/
def prOf (H : Hp) : V → Int × Int
  | .ref t => match H t with
    | some (.tup [.int i, .int j]) => (i, j)
    | _ => (0, 0)
  | _ => (0, 0)
theorem prOf_at {H : Hp} {t : Addr} {i j : Int} (h : H t = some (.tup [.int i, .int j])) : prOf H (.ref t) = (i, j) := by
  show (match H t with
    | some (.tup [.int i, .int j]) => (i, j)
    | _ => (0, 0)) = (i, j)
  rw [h]
theorem lexB_ltPr {a b : Int × Int} : SrtO.lexB a b = ltPr a b := by
  cases h : ltPr a b with
  | true =>
    rw [SrtO.lexB_iff]
    rw [ltPr_iff] at h
    omega
  | false =>
    rw [SrtO.lexB_no]
    rw [ltPr_false] at h
    omega
theorem srt_pairs {rs ws : List Int} {H : Hp} {ys zs : List V} (hl : ys.length = ws.length)
    (hy : ∀ (i : Nat) y, ys[i]? = some y → ∃ (t : Addr) (s : Int), ws[i]? = some s ∧ y = .ref t ∧ H t = some (.tup [.int (rs.getD s.toNat 0), .int s]))
    (srt : SrtO.Srtd (ltP (prOf H)) zs) (stb : SrtO.Stb (ltP (prOf H)) zs ys) :
    zs.map (fun z => V.int (prOf H z).2) = (inTurn rs ws).map V.int ∧ ∀ z ∈ zs, ∃ (t : Addr) (i j : Int), z = .ref t ∧ H t = some (.tup [.int i, .int j]) ∧ prOf H z = (i, j) := by
  have e1 : ys.map (prOf H) = ws.map fun s => (rs.getD s.toNat 0, s) := by
    have h2 : (ys.map (prOf H)).length = ws.length := by rw [List.length_map]; exact hl
    refine eq_map_of h2 fun i y e => ?_
    rw [List.getElem?_map] at e
    cases q : ys[i]? with
    | none => rw [q] at e; cases e
    | some v =>
      rw [q] at e
      obtain ⟨t, s, h1, rfl, h3⟩ := hy i v q
      refine ⟨s, h1, ?_⟩
      rw [← Option.some.inj e]
      exact prOf_at h3
  have e2 : zs.map (prOf H) = sortP (ws.map fun s => (rs.getD s.toNat 0, s)) := by
    refine sortP_eq (by rw [← e1]; exact stb.perm.map _) ?_
    refine List.pairwise_map.mpr (srt.imp fun {a b} h => ?_)
    rw [← lexB_ltPr]
    exact h
  refine ⟨?_, fun z hz => ?_⟩
  · unfold inTurn
    rw [← e2, List.map_map, List.map_map]
    rfl
  · obtain ⟨i, hi, rfl⟩ := List.mem_iff_getElem.mp (stb.perm.subset hz)
    obtain ⟨t, s, h1, h2, h3⟩ := hy i _ (List.getElem?_eq_getElem hi)
    exact ⟨t, _, _, h2, h3, by rw [h2]; exact prOf_at h3⟩
theorem inTurn_len (rs ws : List Int) : (inTurn rs ws).length = ws.length := (inTurn_perm rs ws).length_eq
theorem fn_in_turn (T : Tx K mg) : Fn P w K mg base "in_turn" 1 (sp_in_turn K) := by
  obtain ⟨fd, F⟩ := T.d_in_turn
  refine ⟨_, fd, _, F.ok (CX := CX0) sc_in_turn (fun vs H Q E h => ?_) (fun cdv A outer s H vs Q E hr h => ?_), T.g_in_turn, F.kp, F.bindsN fun _ _ _ _ _ _ us hl => match us, hl with | [_, _], _ => rfl⟩
  · obtain ⟨a, b, rs, ws, rfl, _⟩ := h; rfl
  · obtain ⟨a, b, rs, ws, rfl, ha, hb, hi, hl, q⟩ := h
    refine ⟨_, PSs.nox (pss_one (ps_ret (pe_lc (own := [("number", 2), ("song", 3)]) (g := (gTup K 2 (gCons (gName 2) (gCons (gName 3) gNil)))) (tt := tYes) (by rfl) sc_in_turn.nd (show PI _ _ _ (iList K _) from pi_list (pe_callB (show CallR _ _ (rSortedPO K) from cr_sortedPO) (by rfl) T.sorted (by decide +kernel) (pa_cons (pe_lc (own := [("song", 3)]) (g := (gName 3)) (tt := tYes) (by rfl) sc_in_turn.nd (show PI _ _ _ (iList K _) from pi_list (pv 1)) (blkOk_by (by kernel_rfl)) (fun _ _ _ _ _ => (pg_name (i := 3) sc_in_turn.nd rfl (by first | exact Or.inl rfl | exact Or.inr rfl))) (fun _ _ _ _ _ => pts_nil) (fun _ _ _ _ _ => (pe_tup (pa_cons (pe_ix (show IxR _ (rIxL K) from ix_list) (pv 0) (pv 3) (fun _ _ => rfl)) (pa_cons (pv 3) pa_nil))))) pa_nil))) (blkOk_by (by kernel_rfl)) (fun _ _ _ _ _ => (show PG _ _ (gTup K _ _) from pg_tup rfl (pgs_cons (pg_name (i := 2) sc_in_turn.nd rfl (by first | exact Or.inl rfl | exact Or.inr rfl)) (pgs_cons (pg_name (i := 3) sc_in_turn.nd rfl (by first | exact Or.inl rfl | exact Or.inr rfl)) pgs_nil)))) (fun _ _ _ _ _ => pts_nil) (fun _ _ _ _ _ => (pv 3))))), ?_⟩
    refine ⟨_, rfl, b, rfl, ⟨_, hb⟩, fun D nD => lc_all walk_list sqL_mono hb (fun i H y => ∃ (t : Addr) (s : Int), ws[i]? = some s ∧ y = .ref t ∧ H t = some (.tup [.int (rs.getD s.toNat 0), .int s])) ?_ nD (by rw [List.length_map]; exact hl) ?_ ?_ gname_mono⟩
    · rintro i H1 H2 y s1 ⟨t, s, h1, h2, h3⟩
      exact ⟨t, s, h1, h2, s1 _ _ h3⟩
    · rintro i x H1 H2 acc hi1 s1 hD ⟨rfl, hx⟩ k hk
      obtain ⟨s, rfl, hs⟩ := int_at hx
      obtain ⟨h0, h1⟩ := hi s (List.mem_of_getElem? hs)
      refine ⟨rfl, _, rfl, _, rfl, a, _, _, _, rfl, rfl, s1.seq ha, at_int h0 h1, _, rfl, by show 2 ≤ sizeLine; decide, fun t nt => ?_⟩
      refine hk _ _ (Same.new nt) ⟨t, s, hs, rfl, ?_⟩
      rw [off_out (by simp; exact (ne_of_none hD nt).symm)]
      exact upd_same
    · intro ys H1 s1 hD hly hy
      have hy' : ∀ x ∈ ys, ∃ t, x = V.ref t ∧ H1 t = some (.tup [.int (prOf H1 x).1, .int (prOf H1 x).2]) := fun x hx => by
        obtain ⟨i, hi, rfl⟩ := List.mem_iff_getElem.mp hx
        obtain ⟨t, s, h1, h2, h3⟩ := hy i _ (List.getElem?_eq_getElem hi)
        have h4 := (off_some h3).2
        refine ⟨t, h2, ?_⟩
        rw [h2, prOf_at h4]
        exact h4
      refine ⟨D, ys, prOf H1, rfl, SqL.of hD, hy', fun zs p srt stb np => ?_⟩
      have hly : ys.length = ws.length := by rw [hly, List.length_map]
      obtain ⟨hz1, hz2⟩ := srt_pairs (rs := rs) (ws := ws) hly (fun i y e => by
        obtain ⟨t, s, h1, h2, h3⟩ := hy i y e
        exact ⟨t, s, h1, h2, (off_some h3).2⟩) srt stb
      refine to_new np fun H2 s2 hp => ?_
      refine ⟨p, rfl, ⟨_, SqL.of hp⟩, fun D2 nD2 => lc_map (fun z => V.int (prOf H1 z).2) (SqL.of hp) nD2 ?_ ?_ ?_ gtup_mono⟩
      · rw [stb.perm.length_eq]; omega
      · intro i z H3 hz s3 k hk
        obtain ⟨t, u, v, rfl, ht, ep⟩ := hz2 z (List.mem_of_getElem? hz)
        have hk2 := hk H3 (Same.refl _)
        rw [ep] at hk2
        exact ⟨t, _, rfl, SqT.of (s3 _ _ (s2 _ _ ht)), rfl, _, _, rfl, _, _, rfl, rfl, rfl, _, rfl, hk2⟩
      · intro H3 s3 hD3
        rw [hz1] at hD3
        exact q D2 H3 (s1.free (s2.free nD2)) ((s1.trans s2).trans s3) hD3
end
end Song

/-! ### Pl2: an evening's state and its parts, plainly -/
namespace Song
open PySem L2
inductive Part where
  | wish (ss : List Int) (n r : Int)
  | sing (o : Option Int)
  | out (n : Int)
  deriving DecidableEq
structure EvS where
  last : List Int
  going : Int
  rounds : List Int
  waiting : List Int
  tale : List Part
def evNew (many : Int) : EvS := ⟨List.replicate many.toNat 0, 1, [], [], []⟩
def setAll (last : List Int) (ss : List Int) (n : Int) : List Int := ss.foldl (fun l s => l.set s.toNat n) last
theorem setAll_len : ∀ (ss last : List Int) (n : Int), (setAll last ss n).length = last.length
  | [], _, _ => rfl
  | s :: r, last, n => by
    show (setAll (last.set s.toNat n) r n).length = last.length
    rw [setAll_len r, List.length_set]
theorem setAll_snoc (last ss : List Int) (s n : Int) : setAll last (ss ++ [s]) n = (setAll last ss n).set s.toNat n := by
  unfold setAll
  rw [List.foldl_append]
  rfl
def EvS.num (st : EvS) (ss : List Int) : Int := roundFor st.last st.going ss
def EvS.wish (st : EvS) (ss : List Int) : EvS :=
  ⟨setAll st.last ss (st.num ss), st.going, st.rounds ++ [st.num ss], st.waiting ++ [(st.rounds.length : Int)], st.tale ++ [.wish ss st.rounds.length (st.num ss)]⟩
def EvS.queue (st : EvS) : List Int := inTurn st.rounds st.waiting
def EvS.next (st : EvS) : Option Int := st.queue.head?
def EvS.sing (st : EvS) : EvS := match st.next with
  | none => { st with tale := st.tale ++ [.sing none] }
  | some s => { st with waiting := st.waiting.erase s, going := st.rounds.getD s.toNat 0, tale := st.tale ++ [.sing (some s)] }
def EvS.out (st : EvS) (n : Int) : EvS := { st with waiting := st.waiting.erase n, tale := st.tale ++ [.out n] }
/-- what holds of every evening's state -/
structure EvOk (st : EvS) : Prop where
  one : 1 ≤ st.last.length
  six : st.last.length ≤ 6
  inb : InB st.rounds.length st.waiting
  nd : st.waiting.Nodup
  r24 : st.rounds.length ≤ 24
  tw : ∀ ss n r, Part.wish ss n r ∈ st.tale → ss.length ≤ 3
theorem EvOk.w24 {st : EvS} (h : EvOk st) : st.waiting.length ≤ 24 := Nat.le_trans (nodup_len h.inb h.nd) h.r24
theorem evNew_ok {many : Int} (h1 : 1 ≤ many) (h6 : many ≤ 6) : EvOk (evNew many) :=
  ⟨by show 1 ≤ (List.replicate _ _).length; rw [List.length_replicate]; omega, by show (List.replicate _ _).length ≤ 6; rw [List.length_replicate]; omega,
   (fun s h => by cases h), List.nodup_nil, by show 0 ≤ 24; omega, (fun _ _ _ h => by cases h)⟩
theorem EvOk.wish {st : EvS} {ss : List Int} (h : EvOk st) (hr : st.rounds.length < 24) (h3 : ss.length ≤ 3) : EvOk (st.wish ss) where
  one := by show 1 ≤ (setAll _ _ _).length; rw [setAll_len]; exact h.one
  six := by show (setAll _ _ _).length ≤ 6; rw [setAll_len]; exact h.six
  inb := fun s hs => by
    show 0 ≤ s ∧ s < (((st.rounds ++ [_]).length : Nat) : Int)
    rw [List.length_append, List.length_singleton]
    rcases List.mem_append.mp hs with q | q
    · have := h.inb s q; omega
    · have := List.mem_singleton.mp q; omega
  nd := by
    show (st.waiting ++ [_]).Nodup
    refine List.nodup_append.mpr ⟨h.nd, by simp, fun a ha b hb e => ?_⟩
    have := List.mem_singleton.mp hb
    have := h.inb a ha
    omega
  r24 := by show (st.rounds ++ [_]).length ≤ 24; rw [List.length_append, List.length_singleton]; omega
  tw := fun ss' n r hm => by
    rcases List.mem_append.mp hm with q | q
    · exact h.tw ss' n r q
    · have := List.mem_singleton.mp q
      injection this with e _ _
      rw [e]; exact h3
theorem EvS.next_mem {st : EvS} {s : Int} (h : st.next = some s) : s ∈ st.waiting := (inTurn_perm _ _).subset (List.mem_of_mem_head? (by unfold next queue at h; rw [h]; rfl))
theorem EvS.next_none {st : EvS} (h : st.next = none) : st.waiting = [] := by
  unfold next queue at h
  have e := List.head?_eq_none_iff.mp h
  have l := inTurn_len st.rounds st.waiting
  rw [e] at l
  exact List.eq_nil_of_length_eq_zero l.symm
theorem EvOk.sing {st : EvS} (h : EvOk st) : EvOk st.sing := by
  unfold EvS.sing
  cases e : st.next with
  | none => exact ⟨h.one, h.six, h.inb, h.nd, h.r24, fun ss n r hm => h.tw ss n r (by simpa using hm)⟩
  | some s => exact ⟨h.one, h.six, fun x hx => h.inb x (List.mem_of_mem_erase hx), h.nd.erase _, h.r24, fun ss n r hm => h.tw ss n r (by simpa using hm)⟩
theorem EvOk.out {st : EvS} (h : EvOk st) (n : Int) : EvOk (st.out n) := ⟨h.one, h.six, fun x hx => h.inb x (List.mem_of_mem_erase hx), h.nd.erase _, h.r24, fun ss n r hm => h.tw ss n r (by simpa [EvS.out] using hm)⟩
theorem erase_at : ∀ {ns : List Int} {k : Int}, k ∈ ns → ∃ j : Nat, ns[j]? = some k ∧ (∀ m : Nat, m < j → ns[m]? ≠ some k) ∧ ns.eraseIdx j = ns.erase k
  | n :: r, k, h => by
    by_cases e : n = k
    · subst e
      exact ⟨0, rfl, fun m hm => by omega, by simp⟩
    · obtain ⟨j, h1, h2, h3⟩ := erase_at (ns := r) (k := k) ((List.mem_cons.mp h).resolve_left (fun z => e z.symm))
      refine ⟨j + 1, by simpa using h1, fun m hm => ?_, ?_⟩
      · cases m with
        | zero => simpa using e
        | succ m => simpa using h2 m (by omega)
      · rw [List.eraseIdx_cons_succ, h3, List.erase_cons_tail (by simpa using e)]
/-! #### the parts as data -/
def Part.data : Part → PyData
  | .wish ss n r => .tuple [.str "wish", .list (ss.map PyData.int), .int n, .int r]
  | .sing o => .tuple [.str "sing", optD o]
  | .out n => .tuple [.str "out", .int n]
/-- a part laid in the heap -/
def PartAt (H : Hp) : V → Part → Prop
  | .ref t, .wish ss n r => ∃ b, H t = some (.tup [.str "wish", .ref b, .int n, .int r]) ∧ H b = some (.lst (ss.map V.int))
  | .ref t, .sing o => H t = some (.tup [.str "sing", optV o])
  | .ref t, .out n => H t = some (.tup [.str "out", .int n])
  | _, _ => False
def Parts (H : Hp) : List V → List Part → Prop
  | [], [] => True
  | v :: vs, p :: ps => PartAt H v p ∧ Parts H vs ps
  | _, _ => False
theorem PartAt.mono {H H' : Hp} (s : Same H H') {v : V} {p : Part} (h : PartAt H v p) : PartAt H' v p := by
  cases v with
  | ref t =>
    cases p with
    | wish ss n r =>
      obtain ⟨b, h1, h2⟩ := h
      exact ⟨b, s _ _ h1, s _ _ h2⟩
    | sing o => exact s _ _ h
    | out n => exact s _ _ h
  | _ => exact h.elim
theorem Parts.mono {H H' : Hp} (s : Same H H') : ∀ {vs : List V} {ps : List Part}, Parts H vs ps → Parts H' vs ps
  | [], [], _ => trivial
  | _ :: _, _ :: _, h => ⟨h.1.mono s, Parts.mono s h.2⟩
  | [], _ :: _, h => h.elim
  | _ :: _, [], h => h.elim
theorem Parts.snoc {H : Hp} {v : V} {p : Part} (q : PartAt H v p) : ∀ {vs : List V} {ps : List Part}, Parts H vs ps → Parts H (vs ++ [v]) (ps ++ [p])
  | [], [], _ => ⟨q, trivial⟩
  | _ :: _, _ :: _, h => ⟨h.1, Parts.snoc q h.2⟩
  | [], _ :: _, h => h.elim
  | _ :: _, [], h => h.elim
theorem Parts.len {H : Hp} : ∀ {vs : List V} {ps : List Part}, Parts H vs ps → vs.length = ps.length
  | [], [], _ => rfl
  | _ :: _, _ :: _, h => by simp [Parts.len h.2]
  | [], _ :: _, h => h.elim
  | _ :: _, [], h => h.elim
theorem Parts.get {H : Hp} : ∀ {vs : List V} {ps : List Part} {i : Nat} {v : V}, Parts H vs ps → vs[i]? = some v → ∃ p, ps[i]? = some p ∧ PartAt H v p
  | [], [], _, _, _, e => by simp at e
  | _ :: _, _ :: _, 0, _, h, e => by
    simp at e; subst e; exact ⟨_, rfl, h.1⟩
  | _ :: _, _ :: _, i + 1, v, h, e => by
    obtain ⟨p, h1, h2⟩ := Parts.get (i := i) (v := v) h.2 (by simpa using e)
    exact ⟨p, by simpa using h1, h2⟩
  | [], _ :: _, _, _, h, _ => h.elim
  | _ :: _, [], _, _, h, _ => h.elim
theorem Parts.of {H : Hp} : ∀ {vs : List V} {ps : List Part}, vs.length = ps.length → (∀ (i : Nat) v, vs[i]? = some v → ∃ p, ps[i]? = some p ∧ PartAt H v p) → Parts H vs ps
  | [], [], _, _ => trivial
  | v :: vs, p :: ps, hl, h => by
    obtain ⟨p', e, q⟩ := h 0 v rfl
    cases e
    exact ⟨q, Parts.of (by simpa using hl) fun i v' e => h (i + 1) v' (by simpa using e)⟩
  | [], _ :: _, h, _ => by simp at h
  | _ :: _, [], h, _ => by simp at h
theorem PartAt.dp {K : PySem.W.Frag} {H : Hp} {v : V} {p : Part} (h : PartAt H v p) : Dp K H v p.data := by
  cases v with
  | ref t =>
    cases p with
    | wish ss n r =>
      obtain ⟨b, h1, h2⟩ := h
      exact .tup (SqT.of h1) (.cons (.str _) (.cons (dp_ints (SqL.of h2)) (.cons (.int _) (.cons (.int _) .nil))))
    | sing o =>
      refine .tup (SqT.of h) (.cons (.str _) (.cons ?_ .nil))
      cases o with
      | none => exact .non
      | some n => exact .int n
    | out n => exact .tup (SqT.of h) (.cons (.str _) (.cons (.int _) .nil))
  | _ => exact h.elim
theorem Parts.dp {K : PySem.W.Frag} {H : Hp} : ∀ {vs : List V} {ps : List Part}, Parts H vs ps → DpAll K H vs (ps.map Part.data)
  | [], [], _ => .nil
  | _ :: _, _ :: _, h => .cons h.1.dp (Parts.dp h.2)
  | [], _ :: _, h => h.elim
  | _ :: _, [], h => h.elim
/-! #### shapes -/
theorem shp_part (p : Part) : Shp 3 p.data := by
  cases p with
  | wish ss n r =>
    refine shp_tuple fun x hx => ?_
    simp only [List.mem_cons, List.not_mem_nil, or_false] at hx
    rcases hx with rfl | rfl | rfl | rfl
    · exact shp_word (by decide +kernel)
    · exact shp_ints ss
    · exact shp_int _
    · exact shp_int _
  | sing o =>
    refine shp_tuple fun x hx => ?_
    simp only [List.mem_cons, List.not_mem_nil, or_false] at hx
    rcases hx with rfl | rfl
    · exact shp_word (by decide +kernel)
    · exact (shp_optD o).mono (by decide)
  | out n =>
    refine shp_tuple fun x hx => ?_
    simp only [List.mem_cons, List.not_mem_nil, or_false] at hx
    rcases hx with rfl | rfl
    · exact shp_word (by decide +kernel)
    · exact shp_int _
theorem shp_tale (ps : List Part) : Shp 4 (.list (ps.map Part.data)) := shp_list fun x hx => by
  obtain ⟨p, _, rfl⟩ := List.mem_map.mp hx
  exact shp_part p
end Song

/-! ### Ev4: an evening in the heap, and its methods -/
namespace Song
open PySem L2
/-- where an evening's lists stand -/
structure Ad where
  la : Addr
  ro : Addr
  wa : Addr
  ca : Addr
def own (p : Addr) (A : Ad) : List Addr := [p, A.la, A.ro, A.wa, A.ca]
def evF (A : Ad) (g : Int) : List (Str × V) := [("last", .ref A.la), ("going", .int g), ("rounds", .ref A.ro), ("waiting", .ref A.wa), ("came", .ref A.ca)]
theorem evF_last (A : Ad) (g : Int) : (evF A g).lookup ("last" : Str) = some (.ref A.la) := by kernel_rfl
theorem evF_going (A : Ad) (g : Int) : (evF A g).lookup ("going" : Str) = some (.int g) := by kernel_rfl
theorem evF_rounds (A : Ad) (g : Int) : (evF A g).lookup ("rounds" : Str) = some (.ref A.ro) := by kernel_rfl
theorem evF_waiting (A : Ad) (g : Int) : (evF A g).lookup ("waiting" : Str) = some (.ref A.wa) := by kernel_rfl
theorem evF_came (A : Ad) (g : Int) : (evF A g).lookup ("came" : Str) = some (.ref A.ca) := by kernel_rfl
theorem evF_put (A : Ad) (g g' : Int) : putF "going" (.int g') (evF A g) = evF A g' := by kernel_rfl
theorem evF_no (A : Ad) (g : Int) {m : Str} (h : m ∉ (["last", "going", "rounds", "waiting", "came"] : List Str)) : (evF A g).lookup m = none := by
  simp only [List.mem_cons, List.not_mem_nil, or_false, not_or] at h
  obtain ⟨h1, h2, h3, h4, h5⟩ := h
  unfold evF
  have f : ∀ {x : Str}, ¬ m = x → (m == x) = false := fun h => beq_eq_false_iff_ne.mpr h
  simp only [List.lookup, f h1, f h2, f h3, f h4, f h5]
structure Cells (C : Addr) (H : Hp) (p : Addr) (A : Ad) (last : List Int) (going : Int) (rounds waiting : List Int) (cs : List V) : Prop where
  pp : ∃ dx, H p = some (.ins C dx (evF A going))
  la : H A.la = some (.lst (last.map V.int))
  ro : H A.ro = some (.lst (rounds.map V.int))
  wa : H A.wa = some (.lst (waiting.map V.int))
  ca : H A.ca = some (.lst cs)
  nd : (own p A).Nodup
section
variable {C : Addr} {H H' : Hp} {p : Addr} {A : Ad} {last : List Int} {going : Int} {rounds waiting : List Int} {cs : List V}
theorem Cells.mono (s : Same H H') (c : Cells C H p A last going rounds waiting cs) : Cells C H' p A last going rounds waiting cs := by
  obtain ⟨⟨dx, h1⟩, h2, h3, h4, h5, nd⟩ := c
  exact ⟨⟨dx, s _ _ h1⟩, s _ _ h2, s _ _ h3, s _ _ h4, s _ _ h5, nd⟩
theorem Cells.ne (c : Cells C H p A last going rounds waiting cs) : p ≠ A.la ∧ p ≠ A.ro ∧ p ≠ A.wa ∧ p ≠ A.ca ∧ A.la ≠ A.ro ∧ A.la ≠ A.wa ∧ A.la ≠ A.ca ∧ A.ro ≠ A.wa ∧ A.ro ≠ A.ca ∧ A.wa ≠ A.ca := by
  have h := c.nd
  unfold own at h
  simp only [List.nodup_cons, List.mem_cons, List.not_mem_nil, or_false, not_or] at h
  obtain ⟨⟨a1, a2, a3, a4⟩, ⟨b1, b2, b3⟩, ⟨c1, c2⟩, d1, _⟩ := h
  exact ⟨a1, a2, a3, a4, b1, b2, b3, c1, c2, d1⟩
theorem Cells.putLa (c : Cells C H p A last going rounds waiting cs) (l : List Int) : Cells C (upd H A.la (.lst (l.map V.int))) p A l going rounds waiting cs := by
  obtain ⟨a1, a2, a3, a4, b1, b2, b3, c1, c2, d1⟩ := c.ne
  obtain ⟨⟨dx, h1⟩, h2, h3, h4, h5, nd⟩ := c
  exact ⟨⟨dx, by rw [upd_ne a1]; exact h1⟩, upd_same, by rw [upd_ne b1.symm]; exact h3, by rw [upd_ne b2.symm]; exact h4, by rw [upd_ne b3.symm]; exact h5, nd⟩
theorem Cells.putRo (c : Cells C H p A last going rounds waiting cs) (l : List Int) : Cells C (upd H A.ro (.lst (l.map V.int))) p A last going l waiting cs := by
  obtain ⟨a1, a2, a3, a4, b1, b2, b3, c1, c2, d1⟩ := c.ne
  obtain ⟨⟨dx, h1⟩, h2, h3, h4, h5, nd⟩ := c
  exact ⟨⟨dx, by rw [upd_ne a2]; exact h1⟩, by rw [upd_ne b1]; exact h2, upd_same, by rw [upd_ne c1.symm]; exact h4, by rw [upd_ne c2.symm]; exact h5, nd⟩
theorem Cells.putWa (c : Cells C H p A last going rounds waiting cs) (l : List Int) : Cells C (upd H A.wa (.lst (l.map V.int))) p A last going rounds l cs := by
  obtain ⟨a1, a2, a3, a4, b1, b2, b3, c1, c2, d1⟩ := c.ne
  obtain ⟨⟨dx, h1⟩, h2, h3, h4, h5, nd⟩ := c
  exact ⟨⟨dx, by rw [upd_ne a3]; exact h1⟩, by rw [upd_ne b2]; exact h2, by rw [upd_ne c1]; exact h3, upd_same, by rw [upd_ne d1.symm]; exact h5, nd⟩
theorem Cells.putCa (c : Cells C H p A last going rounds waiting cs) (l : List V) : Cells C (upd H A.ca (.lst l)) p A last going rounds waiting l := by
  obtain ⟨a1, a2, a3, a4, b1, b2, b3, c1, c2, d1⟩ := c.ne
  obtain ⟨⟨dx, h1⟩, h2, h3, h4, h5, nd⟩ := c
  exact ⟨⟨dx, by rw [upd_ne a4]; exact h1⟩, by rw [upd_ne b3]; exact h2, by rw [upd_ne c2]; exact h3, by rw [upd_ne d1]; exact h4, upd_same, nd⟩
theorem Cells.putGo (c : Cells C H p A last going rounds waiting cs) {dx : Addr} (g : Int) : Cells C (upd H p (.ins C dx (evF A g))) p A last g rounds waiting cs := by
  obtain ⟨a1, a2, a3, a4, b1, b2, b3, c1, c2, d1⟩ := c.ne
  obtain ⟨_, h2, h3, h4, h5, nd⟩ := c
  exact ⟨⟨dx, upd_same⟩, by rw [upd_ne a1.symm]; exact h2, by rw [upd_ne a2.symm]; exact h3, by rw [upd_ne a3.symm]; exact h4, by rw [upd_ne a4.symm]; exact h5, nd⟩
end
/-- the evening at p tells st; its parts lie outside of S, all that may change -/
structure Ev (K : PySem.W.Frag) (S : List Addr) (H : Hp) (p : Addr) (A : Ad) (st : EvS) : Prop where
  cell : ∃ cs, Cells (He.ga K "Evening") H p A st.last st.going st.rounds st.waiting cs ∧ Parts (off S H) cs st.tale
  sub : ∀ a ∈ own p A, a ∈ S
  dom : ∀ a ∈ S, ∃ o, H a = some o
  few : st.tale.length ≤ 900
theorem Ev.mono {K : PySem.W.Frag} {S : List Addr} {H H' : Hp} {p : Addr} {A : Ad} {st : EvS} (s : Same H H') (e : Ev K S H p A st) : Ev K S H' p A st := by
  obtain ⟨⟨cs, c, q⟩, sub, dom, few⟩ := e
  refine ⟨⟨cs, c.mono s, q.mono (off_mono s)⟩, sub, fun a ha => ?_, few⟩
  obtain ⟨o, h⟩ := dom a ha
  exact ⟨o, s _ _ h⟩
theorem memA (p : Addr) (A : Ad) : p ∈ own p A ∧ A.la ∈ own p A ∧ A.ro ∈ own p A ∧ A.wa ∈ own p A ∧ A.ca ∈ own p A := by
  unfold own; simp
section
variable {P : Program} {w : World} {K : PySem.W.Frag} {mg : Str → Option Value} {base : Heap}
/-! #### Evening(many) -/
theorem sc_Evening___init__ : FnScope ["self", "many"] ["self", "many"] (defScope s_Evening___init__) := ⟨rfl, rfl, rfl, by decide +kernel, rfl, by decide +kernel, by decide +kernel⟩
def sp_ev_init (K : PySem.W.Frag) : Sp := fun vs H Q _ => ∃ (p dx : Addr) (n : Int), vs = [.ref p, .int n] ∧ 1 ≤ n ∧ n ≤ 6 ∧ H p = some (.ins (He.ga K "Evening") dx []) ∧
  ∀ H' A, Fra [p] H H' → Cells (He.ga K "Evening") H' p A (List.replicate n.toNat 0) 1 [] [] [] → H A.la = none → H A.ro = none → H A.wa = none → H A.ca = none → Q .non H'
theorem fra_free {H H' : Hp} {p b : Addr} {o : HO} (f : Fra [p] H H') (hp : H p = some o) (nb : H' b = none) : (H b = none ∨ b = p) := by
  by_cases e : b = p
  · exact .inr e
  · refine .inl ?_
    cases q : H b with
    | none => rfl
    | some o => rw [f.one e q] at nb; cases nb
theorem mk_Evening (T : Tx K mg) : Mke P w K mg base "Evening" (He.ga K "Evening") 3 (sp_ev_init K) := by
  obtain ⟨fd, F⟩ := T.d_Evening___init__
  refine ⟨_, fd, _, F.ok (CX := CX0) sc_Evening___init__ (fun vs H Q E h => ?_) (fun cdv A outer s H vs Q E hr h => ?_), T.mk_Evening, T.g_Evening, F.bindsN fun _ _ _ _ _ _ us hl => match us, hl with | [_, _], _ => rfl⟩
  · obtain ⟨p, dx, n, rfl, _⟩ := h; rfl
  · obtain ⟨p, dx, n, rfl, h1, h6, hp, q⟩ := h
    refine ⟨_, PSs.nox (pss_cons (ps_expr (pe_fn (fn_check_many T) (hr.mono (by first | decide | omega)) (by rfl) (pa_cons (pv 1) pa_nil)))
      (pss_cons (show PS _ _ (sFld K _ _ _) from ps_fld (pv 0) (pe_op op_rep (pe_lst (pa_cons pe_int pa_nil)) (pv 1)) rfl)
      (pss_cons (show PS _ _ (sFld K _ _ _) from ps_fld (pv 0) pe_int rfl)
      (pss_cons (show PS _ _ (sFld K _ _ _) from ps_fld (pv 0) (pe_lst pa_nil) rfl)
      (pss_cons (show PS _ _ (sFld K _ _ _) from ps_fld (pv 0) (pe_lst pa_nil) rfl)
      (pss_one (show PS _ _ (sFld K _ _ _) from ps_fld (pv 0) (pe_lst pa_nil) rfl))))))), ?_⟩
    refine ⟨_, rfl, n, rfl, h1, h6, ?_⟩
    refine ⟨by show 1 ≤ sizeLine; decide, fun z nz => ?_⟩
    refine to_new nz fun H1 s1 hz => ?_
    refine ⟨_, rfl, z, n, _, rfl, rfl, hz, by omega, by omega, ?_, fun a na => ?_⟩
    · show 1 * n.toNat ≤ sizeLine
      have : sizeLine = 16777216 := by decide
      omega
    rw [rep_flat]
    refine to_new na fun H2 s2 ha => ?_
    have hp2 := s2 _ _ (s1 _ _ hp)
    have npa : p ≠ a := ne_of_none (s1 _ _ hp) na
    refine ⟨_, rfl, p, _, dx, _, rfl, hp2, T.cls_Evening, T.na_Evening_last, by show 0 < 1000; decide, ?_⟩
    refine to_put fun H3 f3 hp3 => ?_
    have ha3 := f3.one npa.symm ha
    refine ⟨_, rfl, p, _, dx, _, rfl, hp3, T.cls_Evening, T.na_Evening_going, by show 1 < 1000; decide, ?_⟩
    refine to_put fun H4 f4 hp4 => ?_
    have ha4 := f4.one npa.symm ha3
    refine ⟨Nat.zero_le _, fun b nb => ?_⟩
    refine to_new nb fun H5 s5 hb => ?_
    have npb : p ≠ b := ne_of_none hp4 nb
    have nab : a ≠ b := ne_of_none ha4 nb
    refine ⟨_, rfl, p, _, dx, _, rfl, s5 _ _ hp4, T.cls_Evening, T.na_Evening_rounds, by show 2 < 1000; decide, ?_⟩
    refine to_put fun H6 f6 hp6 => ?_
    have ha6 := f6.one npa.symm (s5 _ _ ha4)
    have hb6 := f6.one npb.symm hb
    refine ⟨Nat.zero_le _, fun c nc => ?_⟩
    refine to_new nc fun H7 s7 hc => ?_
    have npc : p ≠ c := ne_of_none hp6 nc
    have nac : a ≠ c := ne_of_none ha6 nc
    have nbc : b ≠ c := ne_of_none hb6 nc
    refine ⟨_, rfl, p, _, dx, _, rfl, s7 _ _ hp6, T.cls_Evening, T.na_Evening_waiting, by show 3 < 1000; decide, ?_⟩
    refine to_put fun H8 f8 hp8 => ?_
    have ha8 := f8.one npa.symm (s7 _ _ ha6)
    have hb8 := f8.one npb.symm (s7 _ _ hb6)
    have hc8 := f8.one npc.symm hc
    refine ⟨Nat.zero_le _, fun d nd => ?_⟩
    refine to_new nd fun H9 s9 hd => ?_
    have npd : p ≠ d := ne_of_none hp8 nd
    have nad : a ≠ d := ne_of_none ha8 nd
    have nbd : b ≠ d := ne_of_none hb8 nd
    have ncd : c ≠ d := ne_of_none hc8 nd
    refine ⟨_, rfl, p, _, dx, _, rfl, s9 _ _ hp8, T.cls_Evening, T.na_Evening_came, by show 4 < 1000; decide, ?_⟩
    refine to_put fun H10 f10 hp10 => ?_
    have fr2 : Fra [p] H H2 := Fra.of (s1.trans s2)
    have fr4 : Fra [p] H H4 := (fr2.trans f3).trans f4
    have fr6 : Fra [p] H H6 := (fr4.trans (Fra.of s5)).trans f6
    have fr8 : Fra [p] H H8 := (fr6.trans (Fra.of s7)).trans f8
    have fr10 : Fra [p] H H10 := (fr8.trans (Fra.of s9)).trans f10
    refine q H10 ⟨a, b, c, d⟩ fr10 ⟨⟨dx, ?_⟩, ?_, ?_, ?_, ?_, ?_⟩ (s1.free na) ((fra_free fr4 hp nb).resolve_right npb.symm) ((fra_free fr6 hp nc).resolve_right npc.symm) ((fra_free fr8 hp nd).resolve_right npd.symm)
    · rw [hp10]; exact congrArg some (congrArg (HO.ins _ dx) (by kernel_rfl))
    · exact f10.one npa.symm (s9 _ _ (by rw [← rep_ints]; exact ha8))
    · exact f10.one npb.symm (s9 _ _ hb8)
    · exact f10.one npc.symm (s9 _ _ hc8)
    · exact f10.one npd.symm hd
    · show [p, a, b, c, d].Nodup
      simp only [List.nodup_cons, List.mem_cons, List.not_mem_nil, or_false, not_or]
      exact ⟨⟨npa, npb, npc, npd⟩, ⟨nab, nac, nad⟩, ⟨nbc, nbd⟩, ncd, not_false, List.nodup_nil⟩
end
end Song

/-! ### Ev5: wish, sing, withdraw and the rest -/
namespace Song
open PySem L2
section
variable {C : Addr} {H : Hp} {p : Addr} {A : Ad} {last : List Int} {going : Int} {rounds waiting : List Int} {cs : List V} {Q : Hp → Prop}
@[elab_as_elim] theorem to_la (c : Cells C H p A last going rounds waiting cs) (l : List Int) (h : ∀ H', Fra (own p A) H H' → Cells C H' p A l going rounds waiting cs → Q H') : Q (upd H A.la (.lst (l.map V.int))) :=
  h _ (Fra.put (memA p A).2.1) (c.putLa l)
@[elab_as_elim] theorem to_ro (c : Cells C H p A last going rounds waiting cs) (l : List Int) (h : ∀ H', Fra (own p A) H H' → Cells C H' p A last going l waiting cs → Q H') : Q (upd H A.ro (.lst (l.map V.int))) :=
  h _ (Fra.put (memA p A).2.2.1) (c.putRo l)
@[elab_as_elim] theorem to_wa (c : Cells C H p A last going rounds waiting cs) (l : List Int) (h : ∀ H', Fra (own p A) H H' → Cells C H' p A last going rounds l cs → Q H') : Q (upd H A.wa (.lst (l.map V.int))) :=
  h _ (Fra.put (memA p A).2.2.2.1) (c.putWa l)
@[elab_as_elim] theorem to_ca (c : Cells C H p A last going rounds waiting cs) (l : List V) (h : ∀ H', Fra (own p A) H H' → Cells C H' p A last going rounds waiting l → (∀ b o, b ≠ A.ca → H b = some o → H' b = some o) → Q H') : Q (upd H A.ca (.lst l)) :=
  h _ (Fra.put (memA p A).2.2.2.2) (c.putCa l) fun b o n e => by rw [upd_ne n]; exact e
@[elab_as_elim] theorem to_go (c : Cells C H p A last going rounds waiting cs) (dx : Addr) (g : Int) (h : ∀ H', Fra (own p A) H H' → Cells C H' p A last g rounds waiting cs → Q H') : Q (upd H p (.ins C dx (evF A g))) :=
  h _ (Fra.put (memA p A).1) (c.putGo g)
end
theorem Cells.dom {C : Addr} {H H' : Hp} {p : Addr} {A : Ad} {last : List Int} {going : Int} {rounds waiting : List Int} {cs : List V} {S : List Addr} (c : Cells C H' p A last going rounds waiting cs) (f : Fra (own p A) H H')
    (d : ∀ a ∈ S, ∃ o, H a = some o) : ∀ a ∈ S, ∃ o, H' a = some o := fun a ha => by
  by_cases q : a ∈ own p A
  · unfold own at q
    simp only [List.mem_cons, List.not_mem_nil, or_false] at q
    obtain ⟨dx, hp⟩ := c.pp
    rcases q with e | e | e | e | e
    · rw [e]; exact ⟨_, hp⟩
    · rw [e]; exact ⟨_, c.la⟩
    · rw [e]; exact ⟨_, c.ro⟩
    · rw [e]; exact ⟨_, c.wa⟩
    · rw [e]; exact ⟨_, c.ca⟩
  · obtain ⟨o, h⟩ := d a ha
    exact ⟨o, f a o q h⟩
section
variable {P : Program} {w : World} {K : PySem.W.Frag} {mg : Str → Option Value} {base : Heap}
theorem sc_Evening_wish : FnScope ["self", "singers", "song", "number", "singer"] ["self", "singers"] (defScope s_Evening_wish) := ⟨rfl, rfl, rfl, by decide +kernel, rfl, by decide +kernel, by decide +kernel⟩
def sp_wish (K : PySem.W.Frag) : Sp := fun vs H Q _ => ∃ (S : List Addr) (p a : Addr) (A : Ad) (st : EvS) (ss : List Int), vs = [.ref p, .ref a] ∧ Ev K S H p A st ∧ EvOk st ∧ st.tale.length < 900 ∧ SqL K (off (own p A) H) a (ss.map V.int) ∧
  areSingers ss st.last.length = true ∧ st.rounds.length < 24 ∧
  ∀ H' t, Fra (own p A) H H' → Ev K S H' p A (st.wish ss) → H t = none → H' t = some (.tup [.int st.rounds.length, .int (st.num ss)]) → Q (.ref t) H'
theorem me_Evening_wish (T : Tx K mg) : Me P w K mg base (He.ga K "Evening") "wish" 4 (sp_wish K) := by
  obtain ⟨fd, F⟩ := T.d_Evening_wish
  refine ⟨_, fd, _, F.ok (CX := CX0) sc_Evening_wish (fun vs H Q E h => ?_) (fun cdv A outer s H vs Q E hr h => ?_), T.cls_Evening, T.me_Evening_wish, F.bindsN fun _ _ _ _ _ _ us hl => match us, hl with | [_, _], _ => rfl⟩
  · obtain ⟨S, p, a, A, st, ss, rfl, _⟩ := h; rfl
  · obtain ⟨S, p, a, A', st, ss, rfl, ev, ok, hlt, hs, hA, h24, q⟩ := h
    obtain ⟨⟨cs, c, hq⟩, sub, dom, few⟩ := ev
    obtain ⟨s1, s3, sin, _⟩ := areS_len hA
    have hsH : SqL K H a (ss.map V.int) := (off_le _ H).seq hs
    have idS : ∀ x ∈ own p A', x ∈ own p A' := fun _ h => h
    refine ⟨_, PSs.nox (pss_cons (ps_if (pt_not (pt_val (pe_fn (fn_are_singers T) (hr.mono (by first | decide | omega)) (by rfl) (pa_cons (pv 1) (pa_cons (pe_callB (show CallR _ _ (rLenQ K) from call_len_seq) (by rfl) T.len (by decide +kernel) (pa_cons (show PE _ _ (tFld K _ _) from pe_fld (pv 0) rfl) pa_nil)) pa_nil))))) (pss_one ps_never) pss_nil)
      (pss_cons (ps_if (pt_cmpR op_eq (pe_callB (show CallR _ _ (rLenQ K) from call_len_seq) (by rfl) T.len (by decide +kernel) (pa_cons (show PE _ _ (tFld K _ _) from pe_fld (pv 0) rfl) pa_nil)) (pe_gi T.c_MOST_SONGS (by rfl)) (nomark _)) (pss_one ps_never) pss_nil)
      (pss_cons (ps_par (i := 2) (j := 3) (by rfl) sc_Evening_wish.nd rfl rfl (by decide) rfl rfl (pa_cons (pe_callB (show CallR _ _ (rLenQ K) from call_len_seq) (by rfl) T.len (by decide +kernel) (pa_cons (show PE _ _ (tFld K _ _) from pe_fld (pv 0) rfl) pa_nil)) (pa_cons (pe_fn (fn_round_for T) (hr.mono (by first | decide | omega)) (by rfl) (pa_cons (show PE _ _ (tFld K _ _) from pe_fld (pv 0) rfl) (pa_cons (show PE _ _ (tFld K _ _) from pe_fld (pv 0) rfl) (pa_cons (pv 1) pa_nil)))) pa_nil)) (by rfl))
      (pss_cons (ps_expr (show PE _ _ (tBM K _ _ _ _) from pe_bm PySem.F.plainAttrs_list PySem.F.slot_list_append PySem.F.type_list_append mt_append (show PE _ _ (tFld K _ _) from pe_fld (pv 0) rfl) (pa_cons (pv 3) pa_nil)))
      (pss_cons (ps_expr (show PE _ _ (tBM K _ _ _ _) from pe_bm PySem.F.plainAttrs_list PySem.F.slot_list_append PySem.F.type_list_append mt_append (show PE _ _ (tFld K _ _) from pe_fld (pv 0) rfl) (pa_cons (pv 2) pa_nil)))
      (pss_cons (ps_for PassesOwn.never rfl (show PI _ _ _ (iList K _) from pi_list (pv 1)) (pg_name (i := 4) sc_Evening_wish.nd rfl (by first | exact Or.inl rfl | exact Or.inr rfl))
      (pss_one (ps_asg (pv 3) (pg_sub (show PE _ _ (tFld K _ _) from pe_fld (pv 0) rfl) (pv 4) set_list))))
      (pss_cons (ps_expr (show PE _ _ (tBM K _ _ _ _) from pe_bm PySem.F.plainAttrs_list PySem.F.slot_list_append PySem.F.type_list_append mt_append (show PE _ _ (tFld K _ _) from pe_fld (pv 0) rfl) (pa_cons (pe_tup (pa_cons pe_str (pa_cons (pe_callTy (show CallR _ _ (rListO K) from call_list_of) (by rfl) T.list (by decide +kernel) (pa_cons (pv 1) pa_nil)) (pa_cons (pv 2) (pa_cons (pv 3) pa_nil))))) pa_nil)))
      (pss_one (ps_ret (pe_tup (pa_cons (pv 2) (pa_cons (pv 3) pa_nil)))))))))))), ?_⟩
    obtain ⟨dx, hp⟩ := c.pp
    refine ⟨_, rfl, _, rfl, p, _, dx, _, _, rfl, hp, T.cls_Evening, T.na_Evening_last, evF_last _ _, A'.la, _, rfl, .inl (SqL.of c.la), a, ss, _, rfl, hsH, by omega, fun H1 t1 => ?_⟩
    rw [List.length_map, hA]
    refine ⟨_, rfl, iteF ?_⟩
    have c1 := c.mono t1
    have hp1 := t1 _ _ hp
    refine ⟨_, rfl, p, _, dx, _, _, rfl, hp1, T.cls_Evening, T.na_Evening_rounds, evF_rounds _ _, A'.ro, _, rfl, .inl (SqL.of c1.ro), rfl, _, rfl, ?_⟩
    rw [List.length_map, decide_eq_false (by intro z; injection z; omega)]
    refine iteF ?_
    refine ⟨_, rfl, p, _, dx, _, _, rfl, hp1, T.cls_Evening, T.na_Evening_rounds, evF_rounds _ _, A'.ro, _, rfl, .inl (SqL.of c1.ro), ?_⟩
    rw [List.length_map]
    refine ⟨_, rfl, p, _, dx, _, _, rfl, hp1, T.cls_Evening, T.na_Evening_last, evF_last _ _, _, rfl, p, _, dx, _, _, rfl, hp1, T.cls_Evening, T.na_Evening_going, evF_going _ _, _, rfl,
      A'.la, a, st.last, ss, st.going, rfl, SqL.of c1.la, t1.seq hsH, sin, (fun e => by rw [e] at s1; simp at s1), by omega, fun H2 t2 => ?_⟩
    have c2 := c1.mono t2
    have t12 := t1.trans t2
    refine ⟨_, _, rfl, ?_⟩
    have hp2 := t2 _ _ hp1
    refine ⟨_, rfl, p, _, dx, _, _, rfl, hp2, T.cls_Evening, T.na_Evening_rounds, evF_rounds _ _, .inl ⟨rfl, _, SqL.of c2.ro⟩, _, rfl, A'.ro, _, _, rfl, rfl, c2.ro, lt_line (by rw [List.length_map]; omega), ?_⟩
    rw [← snoc_ints]
    refine to_ro c2 _ fun H3 f3 c3 => ?_
    obtain ⟨dx3, hp3⟩ := c3.pp
    refine ⟨_, rfl, p, _, dx3, _, _, rfl, hp3, T.cls_Evening, T.na_Evening_waiting, evF_waiting _ _, .inl ⟨rfl, _, SqL.of c3.wa⟩, _, rfl, A'.wa, _, _, rfl, rfl, c3.wa, lt_line (by rw [List.length_map]; have := ok.w24; omega), ?_⟩
    rw [← snoc_ints]
    refine to_wa c3 _ fun H4 f4 c4 => ?_
    have fr4 : Fra (own p A') H H4 := ((Fra.of t12).trans f3).trans f4
    refine ⟨_, rfl, a, rfl, ⟨_, (fr4.le idS).seq hs⟩, for_list (K := K) (a := a) (xs := ss.map V.int)
      (fun i σ H' => (∃ x, σ = [some (.ref p), some (.ref a), some (.int st.rounds.length), some (.int (st.num ss)), x]) ∧ Fra (own p A') H H' ∧
        Cells (He.ga K "Evening") H' p A' (setAll st.last (ss.take i) (st.num ss)) st.going (st.rounds ++ [st.num ss]) (st.waiting ++ [(st.rounds.length : Int)]) cs) ⟨⟨_, rfl⟩, fr4, c4⟩ ?_ ?_ ?_⟩
    · intro i σ H' _ h
      exact (h.2.1.le idS).seq hs
    · rintro i x σ H' hx ⟨⟨y, rfl⟩, fr, ci⟩
      obtain ⟨s, rfl, hsi⟩ := int_at hx
      obtain ⟨h0, h1⟩ := sin s (List.mem_of_getElem? hsi)
      obtain ⟨dxi, hpi⟩ := ci.pp
      refine ⟨_, rfl, _, rfl, p, _, dxi, _, _, rfl, hpi, T.cls_Evening, T.na_Evening_last, evF_last _ _, _, rfl, A'.la, _, _, _, rfl, rfl, ci.la, ixN_of h0 (by rw [List.length_map, setAll_len]; exact h1), ?_⟩
      rw [← List.map_set]
      refine to_la ci _ fun H5 f5 c5 => ?_
      refine ⟨⟨_, rfl⟩, fr.trans f5, ?_⟩
      rw [List.take_add_one, hsi]
      show Cells _ _ _ _ (setAll st.last (ss.take i ++ [s]) _) _ _ _ _
      rw [setAll_snoc]
      exact c5
    · rintro σ H5 ⟨⟨y, rfl⟩, fr5, c5⟩
      rw [List.length_map, List.take_length] at c5
      obtain ⟨dx5, hp5⟩ := c5.pp
      refine ⟨_, rfl, p, _, dx5, _, _, rfl, hp5, T.cls_Evening, T.na_Evening_came, evF_came _ _, .inl ⟨rfl, _, SqL.of c5.ca⟩, _, rfl, a, _, rfl, .inl ((fr5.le idS).seq hs), fun b nb => ?_⟩
      refine to_new nb fun H6 s6 hb => ?_
      refine ⟨_, rfl, _, rfl, by show 4 ≤ sizeLine; decide, fun t nt => ?_⟩
      refine to_new nt fun H7 s7 ht => ?_
      have c7 := c5.mono (s6.trans s7)
      have fr7 : Fra (own p A') H H7 := fr5.trans (Fra.of (s6.trans s7))
      refine ⟨A'.ca, _, _, rfl, rfl, c7.ca, lt_line (by rw [hq.len]; omega), ?_⟩
      refine to_ca c7 _ fun H8 f8 c8 kp => ?_
      have fr8 : Fra (own p A') H H8 := fr7.trans f8
      refine ⟨_, rfl, _, rfl, by show 2 ≤ sizeLine; decide, fun u nu => ?_⟩
      refine to_new nu fun H9 s9 hu => ?_
      have dom5 := c5.dom fr5 dom
      have dom6 := dom_same s6 dom5
      have bS : b ∉ S := new_out dom5 nb
      have tS : t ∉ S := new_out dom6 nt
      have fr9 : Fra (own p A') H H9 := fr8.trans (Fra.of s9)
      refine q H9 u fr9 ⟨⟨_, c8.mono s9, ?_⟩, sub, dom_same s9 (c8.dom fr8 dom), ?_⟩ ?_ hu
      · refine Parts.snoc ?_ (hq.mono (Fra.off (fr9.mono sub)))
        have nca : ∀ x : Addr, x ∉ S → x ≠ A'.ca := fun x hx e => hx (by rw [e]; exact sub _ (memA p A').2.2.2.2)
        exact ⟨b, by rw [off_out tS]; exact s9 _ _ (kp _ _ (nca t tS) ht), by rw [off_out bS]; exact s9 _ _ (kp _ _ (nca b bS) (s7 _ _ hb))⟩
      · show (st.tale ++ [_]).length ≤ 900
        rw [List.length_append, List.length_singleton]; omega
      · have uS : u ∉ S := new_out (c8.dom fr8 dom) nu
        cases e : H u with
        | none => rfl
        | some o => rw [fr8 u o (fun z => uS (sub u z)) e] at nu; cases nu
end
end Song

/-! ### Ev6: sing, withdraw, waits, tale -/
namespace Song
open PySem L2
theorem Ev.free {K : PySem.W.Frag} {S : List Addr} {H H' : Hp} {p : Addr} {A : Ad} {st : EvS} {u : Addr} (ev : Ev K S H p A st) (f : Fra (own p A) H H') (d : ∀ a ∈ S, ∃ o, H' a = some o) (nu : H' u = none) : H u = none := by
  have uS : u ∉ S := new_out d nu
  cases e : H u with
  | none => rfl
  | some o => rw [f u o (fun z => uS (ev.sub u z)) e] at nu; cases nu
section
variable {P : Program} {w : World} {K : PySem.W.Frag} {mg : Str → Option Value} {base : Heap}
theorem sc_Evening_sing : FnScope ["self", "turns", "song"] ["self"] (defScope s_Evening_sing) := ⟨rfl, rfl, rfl, by decide +kernel, rfl, by decide +kernel, by decide +kernel⟩
def sp_sing (K : PySem.W.Frag) : Sp := fun vs H Q _ => ∃ (S : List Addr) (p : Addr) (A : Ad) (st : EvS), vs = [.ref p] ∧ Ev K S H p A st ∧ EvOk st ∧ st.tale.length < 900 ∧
  ∀ H', Fra (own p A) H H' → Ev K S H' p A st.sing → Q (optV st.next) H'
theorem me_Evening_sing (T : Tx K mg) : Me P w K mg base (He.ga K "Evening") "sing" 2 (sp_sing K) := by
  obtain ⟨fd, F⟩ := T.d_Evening_sing
  refine ⟨_, fd, _, F.ok (CX := CX0) sc_Evening_sing (fun vs H Q E h => ?_) (fun cdv A outer s H vs Q E hr h => ?_), T.cls_Evening, T.me_Evening_sing, F.bindsN fun _ _ _ _ _ _ us hl => match us, hl with | [_], _ => rfl⟩
  · obtain ⟨S, p, A, st, rfl, _⟩ := h; rfl
  · obtain ⟨S, p, A', st, rfl, ev, ok, hlt, q⟩ := h
    obtain ⟨⟨cs, c, hq⟩, sub, dom, few⟩ := id ev
    refine ⟨_, PSs.nox (pss_cons (ps_set (i := 1) sc_Evening_sing.nd rfl (by first | exact Or.inl rfl | exact Or.inr rfl) (pe_fn (fn_in_turn T) (hr.mono (by first | decide | omega)) (by rfl) (pa_cons (show PE _ _ (tFld K _ _) from pe_fld (pv 0) rfl) (pa_cons (show PE _ _ (tFld K _ _) from pe_fld (pv 0) rfl) pa_nil))))
      (pss_cons (ps_set (i := 2) sc_Evening_sing.nd rfl (by first | exact Or.inl rfl | exact Or.inr rfl) (pe_ifExp (pt_cmpR (show OpR _ _ (rNeD K) from op_neD hr.units) (pv 1) (pe_lst pa_nil) (nomark _)) (pe_ix (show IxR _ (rIxL K) from ix_list) (pv 1) pe_int (fun _ _ => rfl)) pe_non))
      (pss_cons (ps_if (pt_cmpR op_notN (pv 2) pe_non (nomark _)) (pss_cons (ps_expr (show PE _ _ (tBM K _ _ _ _) from pe_bm PySem.F.plainAttrs_list PySem.F.slot_list_remove PySem.F.type_list_remove mt_remove (show PE _ _ (tFld K _ _) from pe_fld (pv 0) rfl) (pa_cons (pv 2) pa_nil)))
      (pss_one (show PS _ _ (sFld K _ _ _) from ps_fld (pv 0) (pe_ix (show IxR _ (rIxL K) from ix_list) (show PE _ _ (tFld K _ _) from pe_fld (pv 0) rfl) (pv 2) (fun _ _ => rfl)) rfl))) pss_nil)
      (pss_cons (ps_expr (show PE _ _ (tBM K _ _ _ _) from pe_bm PySem.F.plainAttrs_list PySem.F.slot_list_append PySem.F.type_list_append mt_append (show PE _ _ (tFld K _ _) from pe_fld (pv 0) rfl) (pa_cons (pe_tup (pa_cons pe_str (pa_cons (pv 2) pa_nil))) pa_nil)))
      (pss_one (ps_ret (pv 2))))))), ?_⟩
    obtain ⟨dx, hp⟩ := c.pp
    refine ⟨_, rfl, p, _, dx, _, _, rfl, hp, T.cls_Evening, T.na_Evening_rounds, evF_rounds _ _, _, rfl, p, _, dx, _, _, rfl, hp, T.cls_Evening, T.na_Evening_waiting, evF_waiting _ _,
      A'.ro, A'.wa, st.rounds, st.waiting, rfl, SqL.of c.ro, SqL.of c.wa, ok.inb, by have := ok.w24; omega, fun l H1 nl s1 hl => ?_⟩
    have e0 : inTurn st.rounds st.waiting = st.queue := rfl
    rw [e0] at hl
    refine ⟨_, rfl, Nat.zero_le _, fun l2 nl2 => ?_⟩
    refine to_new nl2 fun H2 s2 hl2 => ?_
    refine ⟨_, _, dp_ints (SqL.of (s2 _ _ hl)), .lst (SqL.of hl2) .nil, (shp_ints _).ok, shp_nil.ok, _, rfl, ?_⟩
    rw [eqv_nil]
    have c2 := c.mono (s1.trans s2)
    have fr2 : Fra (own p A') H H2 := Fra.of (s1.trans s2)
    obtain ⟨dx2, hp2⟩ := c2.pp
    cases e : st.queue with
    | nil =>
      have en : st.next = none := by unfold EvS.next; rw [e]; rfl
      have es : st.sing = { st with tale := st.tale ++ [.sing none] } := by unfold EvS.sing; rw [en]
      refine iteF ⟨_, rfl, rfl, _, rfl, iteF ?_⟩
      refine ⟨_, rfl, p, _, dx2, _, _, rfl, hp2, T.cls_Evening, T.na_Evening_came, evF_came _ _, .inl ⟨rfl, _, SqL.of c2.ca⟩, _, rfl, by show 2 ≤ sizeLine; decide, fun t nt => ?_⟩
      refine to_new nt fun H3 s3 ht => ?_
      have c3 := c2.mono s3
      refine ⟨A'.ca, _, _, rfl, rfl, c3.ca, lt_line (by rw [hq.len]; omega), ?_⟩
      refine to_ca c3 _ fun H4 f4 c4 kp => ?_
      have fr4 : Fra (own p A') H H4 := (fr2.trans (Fra.of s3)).trans f4
      refine ⟨_, rfl, ?_⟩
      have tS : t ∉ S := new_out (c2.dom fr2 dom) nt
      rw [en, es] at q
      refine q H4 fr4 ⟨⟨_, c4, Parts.snoc ?_ (hq.mono (Fra.off (fr4.mono sub)))⟩, sub, c4.dom fr4 dom, ?_⟩
      · show off S H4 t = _
        rw [off_out tS]
        exact kp _ _ (fun z => tS (by rw [z]; exact sub _ (memA p A').2.2.2.2)) ht
      · show (st.tale ++ [_]).length ≤ 900
        rw [List.length_append, List.length_singleton]; omega
    | cons x r =>
      have en : st.next = some x := by unfold EvS.next; rw [e]; rfl
      have hx := EvS.next_mem en
      obtain ⟨h0, h1⟩ := ok.inb x hx
      obtain ⟨j, j1, j2, j3⟩ := erase_at hx
      rw [e] at hl
      refine iteT ⟨_, rfl, l, _, _, _, rfl, rfl, SqL.of (s2 _ _ hl), atI_nat (j := 0) rfl, ?_⟩
      refine ⟨_, rfl, rfl, _, rfl, iteT ?_⟩
      refine ⟨_, rfl, p, _, dx2, _, _, rfl, hp2, T.cls_Evening, T.na_Evening_waiting, evF_waiting _ _, .inl ⟨rfl, _, SqL.of c2.wa⟩, _, rfl, A'.wa, _, _, j, rfl, rfl, c2.wa, j1, j2, ?_⟩
      rw [j3]
      refine to_wa c2 _ fun H3 f3 c3 => ?_
      obtain ⟨dx3, hp3⟩ := c3.pp
      refine ⟨_, rfl, p, _, dx3, _, _, rfl, hp3, T.cls_Evening, T.na_Evening_rounds, evF_rounds _ _, _, rfl, A'.ro, _, _, _, rfl, rfl, SqL.of c3.ro, at_int h0 h1,
        _, rfl, p, _, dx3, _, rfl, hp3, T.cls_Evening, T.na_Evening_going, by show 5 < 1000; decide, ?_⟩
      rw [evF_put]
      refine to_go c3 dx3 _ fun H4 f4 c4 => ?_
      obtain ⟨dx4, hp4⟩ := c4.pp
      have fr4 : Fra (own p A') H H4 := (fr2.trans f3).trans f4
      refine ⟨_, rfl, p, _, dx4, _, _, rfl, hp4, T.cls_Evening, T.na_Evening_came, evF_came _ _, .inl ⟨rfl, _, SqL.of c4.ca⟩, _, rfl, by show 2 ≤ sizeLine; decide, fun t nt => ?_⟩
      refine to_new nt fun H5 s5 ht => ?_
      have c5 := c4.mono s5
      refine ⟨A'.ca, _, _, rfl, rfl, c5.ca, lt_line (by rw [hq.len]; omega), ?_⟩
      refine to_ca c5 _ fun H6 f6 c6 kp => ?_
      have fr6 : Fra (own p A') H H6 := (fr4.trans (Fra.of s5)).trans f6
      refine ⟨_, rfl, ?_⟩
      have tS : t ∉ S := new_out (c4.dom fr4 dom) nt
      have es : st.sing = { st with waiting := st.waiting.erase x, going := st.rounds.getD x.toNat 0, tale := st.tale ++ [.sing (some x)] } := by unfold EvS.sing; rw [en]
      rw [en, es] at q
      refine q H6 fr6 ⟨⟨_, c6, Parts.snoc ?_ (hq.mono (Fra.off (fr6.mono sub)))⟩, sub, c6.dom fr6 dom, ?_⟩
      · show off S H6 t = _
        rw [off_out tS]
        exact kp _ _ (fun z => tS (by rw [z]; exact sub _ (memA p A').2.2.2.2)) ht
      · show (st.tale ++ [_]).length ≤ 900
        rw [List.length_append, List.length_singleton]; omega
theorem sc_Evening_look_at : FnScope ["self", "song"] ["self", "song"] (defScope s_Evening_look_at) := ⟨rfl, rfl, rfl, by decide +kernel, rfl, by decide +kernel, by decide +kernel⟩
def sp_look_at (K : PySem.W.Frag) : Sp := fun vs H Q _ => ∃ (S : List Addr) (p : Addr) (A : Ad) (st : EvS) (n : Int), vs = [.ref p, .int n] ∧ Ev K S H p A st ∧ n ∈ st.waiting ∧ Q .non H
theorem me_Evening_look_at (T : Tx K mg) : Me P w K mg base (He.ga K "Evening") "look_at" 2 (sp_look_at K) := by
  obtain ⟨fd, F⟩ := T.d_Evening_look_at
  refine ⟨_, fd, _, F.ok (CX := CX0) sc_Evening_look_at (fun vs H Q E h => ?_) (fun cdv A outer s H vs Q E hr h => ?_), T.cls_Evening, T.me_Evening_look_at, F.bindsN fun _ _ _ _ _ _ us hl => match us, hl with | [_, _], _ => rfl⟩
  · obtain ⟨S, p, A, st, n, rfl, _⟩ := h; rfl
  · obtain ⟨S, p, A', st, n, rfl, ev, hn, q⟩ := h
    obtain ⟨⟨cs, c, hq⟩, sub, dom, few⟩ := ev
    refine ⟨_, PSs.nox (pss_one (ps_if (PW.pt (pw_or (pt_not (pt_val (pe_fn (fn_is_whole T) (hr.mono (by first | decide | omega)) (by rfl) (pa_cons (pv 1) pa_nil)))) (pw_or1 (pt_cmpR (show OpR _ _ (rIn K true) from op_notIn_seq) (pv 1) (show PE _ _ (tFld K _ _) from pe_fld (pv 0) rfl) (by rfl))))) (pss_one ps_never) pss_nil)), ?_⟩
    obtain ⟨dx, hp⟩ := c.pp
    refine ⟨_, rfl, _, _, rfl, kd_int n, _, rfl, iteF ?_⟩
    refine ⟨_, rfl, _, rfl, p, _, dx, _, _, rfl, hp, T.cls_Evening, T.na_Evening_waiting, evF_waiting _ _, A'.wa, _, rfl, .inl (SqL.of c.wa), rfl, flat_ints _, _, rfl, ?_⟩
    rw [inV_ints, decide_eq_true hn]
    exact iteF q
theorem sc_Evening_withdraw : FnScope ["self", "song"] ["self", "song"] (defScope s_Evening_withdraw) := ⟨rfl, rfl, rfl, by decide +kernel, rfl, by decide +kernel, by decide +kernel⟩
def sp_withdraw (K : PySem.W.Frag) : Sp := fun vs H Q _ => ∃ (S : List Addr) (p : Addr) (A : Ad) (st : EvS) (n : Int), vs = [.ref p, .int n] ∧ Ev K S H p A st ∧ EvOk st ∧ st.tale.length < 900 ∧ n ∈ st.waiting ∧
  ∀ H', Fra (own p A) H H' → Ev K S H' p A (st.out n) → Q (.int (st.out n).waiting.length) H'
theorem me_Evening_withdraw (T : Tx K mg) : Me P w K mg base (He.ga K "Evening") "withdraw" 3 (sp_withdraw K) := by
  obtain ⟨fd, F⟩ := T.d_Evening_withdraw
  refine ⟨_, fd, _, F.ok (CX := CX0) sc_Evening_withdraw (fun vs H Q E h => ?_) (fun cdv A outer s H vs Q E hr h => ?_), T.cls_Evening, T.me_Evening_withdraw, F.bindsN fun _ _ _ _ _ _ us hl => match us, hl with | [_, _], _ => rfl⟩
  · obtain ⟨S, p, A, st, n, rfl, _⟩ := h; rfl
  · obtain ⟨S, p, A', st, n, rfl, ev, ok, hlt, hn, q⟩ := h
    obtain ⟨⟨cs, c, hq⟩, sub, dom, few⟩ := id ev
    refine ⟨_, PSs.nox (pss_cons (ps_expr (pe_me (me_Evening_look_at T) (hr.mono (by first | decide | omega)) (pv 0) (pa_cons (pv 1) pa_nil)))
      (pss_cons (ps_expr (show PE _ _ (tBM K _ _ _ _) from pe_bm PySem.F.plainAttrs_list PySem.F.slot_list_remove PySem.F.type_list_remove mt_remove (show PE _ _ (tFld K _ _) from pe_fld (pv 0) rfl) (pa_cons (pv 1) pa_nil)))
      (pss_cons (ps_expr (show PE _ _ (tBM K _ _ _ _) from pe_bm PySem.F.plainAttrs_list PySem.F.slot_list_append PySem.F.type_list_append mt_append (show PE _ _ (tFld K _ _) from pe_fld (pv 0) rfl) (pa_cons (pe_tup (pa_cons pe_str (pa_cons (pv 1) pa_nil))) pa_nil)))
      (pss_one (ps_ret (pe_callB (show CallR _ _ (rLenQ K) from call_len_seq) (by rfl) T.len (by decide +kernel) (pa_cons (show PE _ _ (tFld K _ _) from pe_fld (pv 0) rfl) pa_nil))))))), ?_⟩
    obtain ⟨dx, hp⟩ := c.pp
    obtain ⟨j, j1, j2, j3⟩ := erase_at hn
    refine ⟨_, rfl, p, dx, _, rfl, hp, evF_no _ _ (by decide +kernel), _, rfl, S, p, A', st, n, rfl, ev, hn, ?_⟩
    refine ⟨_, rfl, p, _, dx, _, _, rfl, hp, T.cls_Evening, T.na_Evening_waiting, evF_waiting _ _, .inl ⟨rfl, _, SqL.of c.wa⟩, _, rfl, A'.wa, _, _, j, rfl, rfl, c.wa, j1, j2, ?_⟩
    rw [j3]
    refine to_wa c _ fun H3 f3 c3 => ?_
    obtain ⟨dx3, hp3⟩ := c3.pp
    refine ⟨_, rfl, p, _, dx3, _, _, rfl, hp3, T.cls_Evening, T.na_Evening_came, evF_came _ _, .inl ⟨rfl, _, SqL.of c3.ca⟩, _, rfl, by show 2 ≤ sizeLine; decide, fun t nt => ?_⟩
    refine to_new nt fun H5 s5 ht => ?_
    have c5 := c3.mono s5
    refine ⟨A'.ca, _, _, rfl, rfl, c5.ca, lt_line (by rw [hq.len]; omega), ?_⟩
    refine to_ca c5 _ fun H6 f6 c6 kp => ?_
    have fr6 : Fra (own p A') H H6 := (f3.trans (Fra.of s5)).trans f6
    obtain ⟨dx6, hp6⟩ := c6.pp
    refine ⟨_, rfl, p, _, dx6, _, _, rfl, hp6, T.cls_Evening, T.na_Evening_waiting, evF_waiting _ _, A'.wa, _, rfl, .inl (SqL.of c6.wa), ?_⟩
    rw [List.length_map]
    have tS : t ∉ S := new_out (c3.dom f3 dom) nt
    refine q H6 fr6 ⟨⟨_, c6, Parts.snoc ?_ (hq.mono (Fra.off (fr6.mono sub)))⟩, sub, c6.dom fr6 dom, ?_⟩
    · show off S H6 t = _
      rw [off_out tS]
      exact kp _ _ (fun z => tS (by rw [z]; exact sub _ (memA p A').2.2.2.2)) ht
    · show (st.tale ++ [_]).length ≤ 900
      rw [List.length_append, List.length_singleton]; omega
theorem sc_Evening_waits : FnScope ["self"] ["self"] (defScope s_Evening_waits) := ⟨rfl, rfl, rfl, by decide +kernel, rfl, by decide +kernel, by decide +kernel⟩
def sp_waits (K : PySem.W.Frag) : Sp := fun vs H Q _ => ∃ (S : List Addr) (p : Addr) (A : Ad) (st : EvS), vs = [.ref p] ∧ Ev K S H p A st ∧ EvOk st ∧
  ∀ l H', H l = none → Same H H' → H' l = some (.lst (st.queue.map V.int)) → Q (.ref l) H'
theorem me_Evening_waits (T : Tx K mg) : Me P w K mg base (He.ga K "Evening") "waits" 2 (sp_waits K) := by
  obtain ⟨fd, F⟩ := T.d_Evening_waits
  refine ⟨_, fd, _, F.ok (CX := CX0) sc_Evening_waits (fun vs H Q E h => ?_) (fun cdv A outer s H vs Q E hr h => ?_), T.cls_Evening, T.me_Evening_waits, F.bindsN fun _ _ _ _ _ _ us hl => match us, hl with | [_], _ => rfl⟩
  · obtain ⟨S, p, A, st, rfl, _⟩ := h; rfl
  · obtain ⟨S, p, A', st, rfl, ev, ok, q⟩ := h
    obtain ⟨⟨cs, c, hq⟩, sub, dom, few⟩ := ev
    obtain ⟨dx, hp⟩ := c.pp
    refine ⟨_, PSs.nox (pss_one (ps_ret (pe_fn (fn_in_turn T) (hr.mono (by first | decide | omega)) (by rfl) (pa_cons (show PE _ _ (tFld K _ _) from pe_fld (pv 0) rfl) (pa_cons (show PE _ _ (tFld K _ _) from pe_fld (pv 0) rfl) pa_nil))))), ?_⟩
    exact ⟨_, rfl, p, _, dx, _, _, rfl, hp, T.cls_Evening, T.na_Evening_rounds, evF_rounds _ _, _, rfl, p, _, dx, _, _, rfl, hp, T.cls_Evening, T.na_Evening_waiting, evF_waiting _ _,
      A'.ro, A'.wa, st.rounds, st.waiting, rfl, SqL.of c.ro, SqL.of c.wa, ok.inb, (by have := ok.w24; omega), q⟩
/-! #### tale() -/
/-- a part told anew: the list within a wish is new to H0 -/
def PartN (H0 H : Hp) (v : V) (p : Part) : Prop := PartAt H v p ∧ ∀ ss n r, p = .wish ss n r → ∃ t b, v = .ref t ∧ H t = some (.tup [.str "wish", .ref b, .int n, .int r]) ∧ H b = some (.lst (ss.map V.int)) ∧ H0 b = none
theorem PartN.mono {H0 H H' : Hp} (s : Same H H') {v : V} {p : Part} (h : PartN H0 H v p) : PartN H0 H' v p :=
  ⟨h.1.mono s, fun ss n r e => by
    obtain ⟨t, b, h1, h2, h3, h4⟩ := h.2 ss n r e
    exact ⟨t, b, h1, s _ _ h2, s _ _ h3, h4⟩⟩
theorem nW1 : decide (V.str "sing" = V.str "wish") = false := by decide +kernel
theorem nW2 : decide (V.str "out" = V.str "wish") = false := by decide +kernel
theorem sc_Evening_tale : FnScope ["self", "one"] ["self"] (defScope s_Evening_tale) := ⟨rfl, rfl, rfl, by decide +kernel, rfl, by decide +kernel, by decide +kernel⟩
def sp_tale (K : PySem.W.Frag) : Sp := fun vs H Q _ => ∃ (S : List Addr) (p : Addr) (A : Ad) (st : EvS), vs = [.ref p] ∧ Ev K S H p A st ∧
  ∀ l H' cs, H l = none → Same H H' → H' l = some (.lst cs) → cs.length = st.tale.length → (∀ (i : Nat) v, cs[i]? = some v → ∃ q, st.tale[i]? = some q ∧ PartN H (off [l] H') v q) → Q (.ref l) H'
theorem me_Evening_tale (T : Tx K mg) : Me P w K mg base (He.ga K "Evening") "tale" 1 (sp_tale K) := by
  obtain ⟨fd, F⟩ := T.d_Evening_tale
  refine ⟨_, fd, _, F.ok (CX := CX0) sc_Evening_tale (fun vs H Q E h => ?_) (fun cdv A outer s H vs Q E hr h => ?_), T.cls_Evening, T.me_Evening_tale, F.bindsN fun _ _ _ _ _ _ us hl => match us, hl with | [_], _ => rfl⟩
  · obtain ⟨S, p, A, st, rfl, _⟩ := h; rfl
  · obtain ⟨S, p, A', st, rfl, ev, q⟩ := h
    obtain ⟨⟨cs, c, hq⟩, sub, dom, few⟩ := ev
    obtain ⟨dx, hp⟩ := c.pp
    refine ⟨_, PSs.nox (pss_one (ps_ret (pe_lc (own := [("one", 1)]) (g := (gName 1)) (tt := tYes) (by rfl) sc_Evening_tale.nd (show PI _ _ _ (iList K _) from pi_list (show PE _ _ (tFld K _ _) from pe_fld (pv 0) rfl)) (blkOk_by (by kernel_rfl)) (fun _ _ _ _ _ => (pg_name (i := 1) sc_Evening_tale.nd rfl (by first | exact Or.inl rfl | exact Or.inr rfl))) (fun _ _ _ _ _ => pts_nil) (fun _ _ _ _ _ => (pe_ifExp (pt_cmpR op_eq (pe_ix (show IxR _ (rIxT K) from ix_tup) (pv 1) pe_int (fun _ _ => rfl)) pe_str (nomark _)) (pe_tup (pa_cons (pe_ix (show IxR _ (rIxT K) from ix_tup) (pv 1) pe_int (fun _ _ => rfl)) (pa_cons (pe_callTy (show CallR _ _ (rListO K) from call_list_of) (by rfl) T.list (by decide +kernel) (pa_cons (pe_ix (show IxR _ (rIxT K) from ix_tup) (pv 1) pe_int (fun _ _ => rfl)) pa_nil)) (pa_cons (pe_ix (show IxR _ (rIxT K) from ix_tup) (pv 1) pe_int (fun _ _ => rfl)) (pa_cons (pe_ix (show IxR _ (rIxT K) from ix_tup) (pv 1) pe_int (fun _ _ => rfl)) pa_nil))))) (pv 1)))))), ?_⟩
    have hqH : Parts H cs st.tale := hq.mono (off_le S H)
    refine ⟨_, rfl, p, _, dx, _, _, rfl, hp, T.cls_Evening, T.na_Evening_came, evF_came _ _, A'.ca, rfl, ⟨_, SqL.of c.ca⟩, fun D nD => lc_all walk_list sqL_mono (SqL.of c.ca) (fun i H1 y => ∃ q, st.tale[i]? = some q ∧ PartN H H1 y q) ?_ nD (by rw [hqH.len]; omega) ?_ ?_ gname_mono⟩
    · rintro i H1 H2 y s1 ⟨q, h1, h2⟩
      exact ⟨q, h1, h2.mono s1⟩
    · rintro i x H1 H2 acc hi1 s1 hD ⟨rfl, hx⟩ k hk
      obtain ⟨part, hpt, pa⟩ := hqH.get hx
      cases x with
      | ref t =>
        cases part with
        | wish ss n r =>
          obtain ⟨b, ht, hb⟩ := pa
          have ht2 := s1 _ _ ht
          have hb2 := s1 _ _ hb
          refine ⟨rfl, _, rfl, t, _, _, _, rfl, rfl, SqT.of ht2, atI_nat (j := 0) rfl, rfl, _, rfl, ?_⟩
          rw [decide_eq_true rfl]
          refine iteT ⟨_, rfl, t, _, _, _, rfl, rfl, SqT.of ht2, atI_nat (j := 0) rfl, _, rfl, t, _, _, _, rfl, rfl, SqT.of ht2, atI_nat (j := 1) rfl, b, _, rfl, .inl (SqL.of hb2), fun b' nb => ?_⟩
          refine to_new nb fun H3 s3 hb3 => ?_
          have ht3 := s3 _ _ ht2
          refine ⟨_, rfl, t, _, _, _, rfl, rfl, SqT.of ht3, atI_nat (j := 2) rfl, _, rfl, t, _, _, _, rfl, rfl, SqT.of ht3, atI_nat (j := 3) rfl, by show 4 ≤ sizeLine; decide, fun t' nt => ?_⟩
          have hb4 : upd H3 t' (.tup [.str "wish", .ref b', .int n, .int r]) b' = some (.lst (ss.map V.int)) := (Same.new nt) _ _ hb3
          have nbD : b' ≠ D := (ne_of_none hD nb).symm
          have ntD : t' ≠ D := (ne_of_none (s3 _ _ hD) nt).symm
          have o1 : off [D] (upd H3 t' (.tup [.str "wish", .ref b', .int n, .int r])) t' = some (.tup [.str "wish", .ref b', .int n, .int r]) := by rw [off_out (by simpa using ntD)]; exact upd_same
          have o2 : off [D] (upd H3 t' (.tup [.str "wish", .ref b', .int n, .int r])) b' = some (.lst (ss.map V.int)) := by rw [off_out (by simpa using nbD)]; exact hb4
          refine hk _ _ (s3.trans (Same.new nt)) ⟨_, hpt, ⟨b', o1, o2⟩, fun ss' n' r' e => ?_⟩
          injection e with e1 e2 e3
          subst e1; subst e2; subst e3
          exact ⟨t', b', rfl, o1, o2, s1.free nb⟩
        | sing o =>
          have ht2 := s1 _ _ pa
          refine ⟨rfl, _, rfl, t, _, _, _, rfl, rfl, SqT.of ht2, atI_nat (j := 0) rfl, rfl, _, rfl, ?_⟩
          rw [nW1]
          refine iteF ⟨_, rfl, hk _ _ (Same.refl _) ⟨_, hpt, ?_, fun ss' n' r' e => by cases e⟩⟩
          show off [D] H2 t = _
          rw [off_out (by simpa using ne_of ht2 hD (by intro z; cases z))]
          exact ht2
        | out n =>
          have ht2 := s1 _ _ pa
          refine ⟨rfl, _, rfl, t, _, _, _, rfl, rfl, SqT.of ht2, atI_nat (j := 0) rfl, rfl, _, rfl, ?_⟩
          rw [nW2]
          refine iteF ⟨_, rfl, hk _ _ (Same.refl _) ⟨_, hpt, ?_, fun ss' n' r' e => by cases e⟩⟩
          show off [D] H2 t = _
          rw [off_out (by simpa using ne_of ht2 hD (by intro z; cases z))]
          exact ht2
      | _ => exact pa.elim
    · intro ys H1 s1 hD hly hy
      exact q D H1 ys nD s1 hD (by rw [hly, hqH.len]) hy
end
end Song

/-! ### Lw1: a law's draws -/
namespace Song
open PySem L2
/-! #### sizes of numbers -/
def Bits (n : Nat) (c : Int) : Prop := c.natAbs < 2 ^ n
theorem Bits.of_int {n : Nat} {c : Int} (h : Builtin.Int.intBits c ≤ n) : Bits n c := by
  unfold Builtin.Int.intBits at h
  unfold Bits
  by_cases e : c = 0
  · subst e
    exact Nat.two_pow_pos n
  · rw [if_neg (by simpa using e)] at h
    exact (Nat.log2_lt (by omega)).mp (by omega)
theorem Bits.mono {n m : Nat} {c : Int} (h : Bits n c) (hm : n ≤ m) : Bits m c := Nat.lt_of_lt_of_le h (Nat.pow_le_pow_right (by decide) hm)
theorem Bits.small {c : Int} {n : Nat} (h : c.natAbs < 2 ^ 64) (hn : 64 ≤ n) : Bits n c := Bits.mono (n := 64) h hn
theorem Bits.add {n : Nat} {a b : Int} (ha : Bits n a) (hb : Bits n b) : Bits (n + 1) (a + b) := by
  unfold Bits at *
  rw [Nat.pow_succ]
  generalize 2 ^ n = m at *
  omega
theorem Bits.mulOk {n m : Nat} {a b : Int} (ha : Bits n a) (hb : Bits m b) (h : n + m ≤ 100000000) : IntMulOk a b := by
  have f : ∀ {x : Int} {k : Nat}, Bits k x → Builtin.Int.intBits x ≤ k := fun {x k} hx => by
    unfold Builtin.Int.intBits
    split
    · omega
    · rename_i e
      have : x.natAbs ≠ 0 := by
        have : x ≠ 0 := by simpa using e
        omega
      have := (Nat.log2_lt this).mpr hx
      omega
  have h1 := f ha
  have h2 := f hb
  unfold IntMulOk
  intro z
  rw [Bool.and_eq_true] at z
  have z3 := of_decide_eq_true (show decide ((((Builtin.Int.intBits a + Builtin.Int.intBits b : Nat) : Int)) > (bitsLine : Int)) = true from z.2)
  have e : bitsLine = 134217728 := by decide
  rw [e] at z3
  omega
theorem mulS {a b : Int} (h : a.natAbs < 2 ^ 64 ∨ b.natAbs < 2 ^ 64) : IntMulOk a b := by
  rcases h with h | h
  · exact IntMulOk.of_left (intBits_le_64 (by omega) (by omega))
  · exact IntMulOk.of_right (intBits_le_64 (by omega) (by omega))
/-! #### the draws, plainly -/
def cellAt (ns : List Int) (k : Int) : Int := ns.getD k.toNat 0
def primes : List Int := [1000003, 1000033, 1000037, 1000039, 1000081, 1000099, 1000117, 1000121, 1000133, 1000151, 1000159, 1000171, 1000183, 1000187, 1000193, 1000199]
theorem primes_pos : ∀ i : Nat, i < 16 → 0 < primes.getD i 0 := by decide
def lawDraw (c k m : Int) : Int := (c * 48271 + k * 69621) % primes.getD (k % 16).toNat 0 % m
theorem lawDraw_in {c k m : Int} (h : 0 < m) : 0 ≤ lawDraw c k m ∧ lawDraw c k m < m := ⟨Int.emod_nonneg _ (by omega), Int.emod_lt_of_pos _ h⟩
def p18 : Int := 10 ^ (18 : Int).toNat
theorem p18_eq : p18 = 1000000000000000000 := by decide
def lawValue (c t : Int) : Int :=
  if p18 ≤ c then (c - p18) / 2 ^ (3 * t).toNat
  else lawDraw ((c + 977 * t) * (c + 31 * t + 5)) (t % 9 + 1) 999983 * 1000003 + lawDraw ((c + 31 * t) * (c + 7) + 977 * t) (t % 7 + 2) 1000003
theorem lawValue_nn (c t : Int) : 0 ≤ lawValue c t := by
  unfold lawValue
  split
  · exact Int.ediv_nonneg (by omega) (two_pow_nn _)
  · have h1 := (lawDraw_in (c := (c + 977 * t) * (c + 31 * t + 5)) (k := t % 9 + 1) (m := 999983) (by decide)).1
    have h2 := (lawDraw_in (c := (c + 31 * t) * (c + 7) + 977 * t) (k := t % 7 + 2) (m := 1000003) (by decide)).1
    omega
section
variable {P : Program} {w : World} {K : PySem.W.Frag} {mg : Str → Option Value} {base : Heap}
theorem sc__law_cell_at : FnScope ["_law_script", "_law_k"] ["_law_script", "_law_k"] (defScope s__law_cell_at) := ⟨rfl, rfl, rfl, by decide +kernel, rfl, by decide +kernel, by decide +kernel⟩
def sp_cell_at (K : PySem.W.Frag) : Sp := fun vs H Q _ => ∃ (a : Addr) (ns : List Int) (k : Int), vs = [.ref a, .int k] ∧ SqL K H a (ns.map V.int) ∧ 0 ≤ k ∧ Q (.int (cellAt ns k)) H
theorem fn__law_cell_at (T : Tx K mg) : Fn P w K mg base "_law_cell_at" 1 (sp_cell_at K) := by
  obtain ⟨fd, F⟩ := T.d__law_cell_at
  refine ⟨_, fd, _, F.ok (CX := CX0) sc__law_cell_at (fun vs H Q E h => ?_) (fun cdv A outer s H vs Q E hr h => ?_), T.g__law_cell_at, F.kp, F.bindsN fun _ _ _ _ _ _ us hl => match us, hl with | [_, _], _ => rfl⟩
  · obtain ⟨a, ns, k, rfl, _⟩ := h; rfl
  · obtain ⟨a, ns, k, rfl, hs, h0, q⟩ := h
    refine ⟨_, PSs.nox (pss_cons (ps_if (pt_cmpR op_lt (pv 1) (pe_callB (show CallR _ _ (rLenQ K) from call_len_seq) (by rfl) T.len (by decide +kernel) (pa_cons (pv 0) pa_nil)) (nomark _)) (pss_one (ps_ret (pe_ix (show IxR _ (rIxL K) from ix_list) (pv 0) (pv 1) (fun _ _ => rfl)))) pss_nil)
      (pss_one (ps_ret pe_int))), ?_⟩
    refine ⟨_, rfl, _, rfl, a, _, rfl, .inl hs, _, _, rfl, rfl, _, rfl, ?_⟩
    rw [List.length_map]
    by_cases h1 : k < (ns.length : Int)
    · rw [decide_eq_true h1]
      exact iteT ⟨_, rfl, _, rfl, a, _, _, _, rfl, rfl, hs, at_int h0 h1, q⟩
    · rw [decide_eq_false h1]
      refine iteF ?_
      have e : cellAt ns k = 0 := by
        unfold cellAt
        rw [List.getD_eq_getElem?_getD, List.getElem?_eq_none (by omega)]; rfl
      rw [e] at q
      exact q
theorem sc__law_draw : FnScope ["_law_cell", "_law_k", "_law_many_here", "_law_primes"] ["_law_cell", "_law_k", "_law_many_here"] (defScope s__law_draw) := ⟨rfl, rfl, rfl, by decide +kernel, rfl, by decide +kernel, by decide +kernel⟩
def sp_draw : Sp := fun vs H Q _ => ∃ c k m : Int, vs = [.int c, .int k, .int m] ∧ 0 < m ∧ ∀ H', Same H H' → Q (.int (lawDraw c k m)) H'
theorem fn__law_draw (T : Tx K mg) : Fn P w K mg base "_law_draw" 1 sp_draw := by
  obtain ⟨fd, F⟩ := T.d__law_draw
  refine ⟨_, fd, _, F.ok (CX := CX0) sc__law_draw (fun vs H Q E h => ?_) (fun cdv A outer s H vs Q E hr h => ?_), T.g__law_draw, F.kp, F.bindsN fun _ _ _ _ _ _ us hl => match us, hl with | [_, _, _], _ => rfl⟩
  · obtain ⟨c, k, m, rfl, _⟩ := h; rfl
  · obtain ⟨c, k, m, rfl, hm, q⟩ := h
    refine ⟨_, PSs.nox (pss_cons (ps_set (i := 3) sc__law_draw.nd rfl (by first | exact Or.inl rfl | exact Or.inr rfl) (pe_tup (pa_cons pe_int (pa_cons pe_int (pa_cons pe_int (pa_cons pe_int (pa_cons pe_int (pa_cons pe_int (pa_cons pe_int (pa_cons pe_int (pa_cons pe_int (pa_cons pe_int (pa_cons pe_int (pa_cons pe_int (pa_cons pe_int (pa_cons pe_int (pa_cons pe_int (pa_cons pe_int pa_nil))))))))))))))))))
      (pss_one (ps_ret (pe_op op_mod (pe_op op_mod (pe_op op_add (pe_op op_mulO (pv 0) pe_int) (pe_op op_mulO (pv 1) pe_int)) (pe_ix (show IxR _ (rIxT K) from ix_tup) (pv 3) (pe_op op_mod (pv 1) pe_int) (fun _ _ => rfl))) (pv 2))))), ?_⟩
    have hk0 := Int.emod_nonneg k (b := 16) (by decide)
    have hk1 := Int.emod_lt_of_pos k (b := 16) (by decide)
    refine ⟨by show 16 ≤ sizeLine; decide, fun t nt => ?_⟩
    refine to_new nt fun H1 s1 ht => ?_
    refine ⟨_, rfl, _, _, rfl, rfl, mulS (.inr (by decide)), _, rfl, _, _, rfl, rfl, mulS (.inr (by decide)), _, _, rfl, rfl,
      _, rfl, _, rfl, _, _, rfl, rfl, (show (0 : Int) < 16 by decide), t, primes.map V.int, _, _, rfl, rfl, SqT.of ht, at_int (ls := primes) hk0 hk1, _, _, rfl, rfl, primes_pos _ (by omega), _, rfl, _, _, rfl, rfl, hm, q _ s1⟩
theorem sc__law_value : FnScope ["_law_cell", "_law_turn", "_law_blend"] ["_law_cell", "_law_turn"] (defScope s__law_value) := ⟨rfl, rfl, rfl, by decide +kernel, rfl, by decide +kernel, by decide +kernel⟩
def sp_value : Sp := fun vs H Q _ => ∃ c t : Int, vs = [.int c, .int t] ∧ Bits 1048600 c ∧ 0 ≤ t ∧ t ≤ 100 ∧ ∀ H', Same H H' → Q (.int (lawValue c t)) H'
theorem fn__law_value (T : Tx K mg) : Fn P w K mg base "_law_value" 2 sp_value := by
  obtain ⟨fd, F⟩ := T.d__law_value
  refine ⟨_, fd, _, F.ok (CX := CX0) sc__law_value (fun vs H Q E h => ?_) (fun cdv A outer s H vs Q E hr h => ?_), T.g__law_value, F.kp, F.bindsN fun _ _ _ _ _ _ us hl => match us, hl with | [_, _], _ => rfl⟩
  · obtain ⟨c, k, rfl, _⟩ := h; rfl
  · obtain ⟨c, t, rfl, hb, h0, h1, q⟩ := h
    refine ⟨_, PSs.nox (pss_cons (ps_if (pt_cmpR op_ge (pv 0) (pe_op op_pow pe_int pe_int) (nomark _)) (pss_one (ps_ret (pe_op op_shr (pe_op op_sub (pv 0) (pe_op op_pow pe_int pe_int)) (pe_op op_mulO pe_int (pv 1))))) pss_nil)
      (pss_cons (ps_set (i := 2) sc__law_value.nd rfl (by first | exact Or.inl rfl | exact Or.inr rfl) (pe_fn (fn__law_draw T) (hr.mono (by first | decide | omega)) (by rfl) (pa_cons (pe_op op_mulO (pe_op op_add (pv 0) (pe_op op_mulO pe_int (pv 1))) (pe_op op_add (pe_op op_add (pv 0) (pe_op op_mulO pe_int (pv 1))) pe_int)) (pa_cons (pe_op op_add (pe_op op_mod (pv 1) pe_int) pe_int) (pa_cons pe_int pa_nil)))))
      (pss_one (ps_ret (pe_op op_add (pe_op op_mulO (pv 2) pe_int) (pe_fn (fn__law_draw T) (hr.mono (by first | decide | omega)) (by rfl) (pa_cons (pe_op op_add (pe_op op_mulO (pe_op op_add (pv 0) (pe_op op_mulO pe_int (pv 1))) (pe_op op_add (pv 0) pe_int)) (pe_op op_mulO pe_int (pv 1))) (pa_cons (pe_op op_add (pe_op op_mod (pv 1) pe_int) pe_int) (pa_cons pe_int pa_nil))))))))), ?_⟩
    have e18 := p18_eq
    refine ⟨_, rfl, _, _, rfl, rfl, ⟨by decide, by decide, by decide⟩, _, _, rfl, rfl, _, rfl, ?_⟩
    by_cases hc : p18 ≤ c
    · have eq : lawValue c t = (c - p18) / 2 ^ (3 * t).toNat := by unfold lawValue; rw [if_pos hc]
      rw [show decide ((10 : Int) ^ (18 : Int).toNat ≤ c) = true from decide_eq_true hc]
      refine iteT ⟨_, rfl, _, _, rfl, rfl, ⟨by decide, by decide, by decide⟩, _, _, rfl, rfl, _, rfl, _, _, rfl, rfl, mulS (.inl (by decide)), _, _, rfl, rfl, (by show 0 ≤ 3 * t; omega), ?_⟩
      rw [eq] at q
      exact q _ (Same.refl _)
    · have eq : lawValue c t = lawDraw ((c + 977 * t) * (c + 31 * t + 5)) (t % 9 + 1) 999983 * 1000003 + lawDraw ((c + 31 * t) * (c + 7) + 977 * t) (t % 7 + 2) 1000003 := by unfold lawValue; rw [if_neg hc]
      rw [show decide ((10 : Int) ^ (18 : Int).toNat ≤ c) = false from decide_eq_false hc]
      have b1 : Bits 1048601 (c + 977 * t) := hb.add (Bits.small (by omega) (by decide))
      have b2 : Bits 1048601 (c + 31 * t) := hb.add (Bits.small (by omega) (by decide))
      have b3 : Bits 1048602 (c + 31 * t + 5) := b2.add (Bits.small (by omega) (by decide))
      have b4 : Bits 1048601 (c + 7) := hb.add (Bits.small (by omega) (by decide))
      refine iteF ?_
      refine ⟨_, rfl, _, rfl, _, _, rfl, rfl, mulS (.inl (by decide)), _, _, rfl, rfl, _, rfl, _, rfl, _, _, rfl, rfl, mulS (.inl (by decide)), _, _, rfl, rfl, _, _, rfl, rfl, _, _, rfl, rfl, b1.mulOk b3 (by decide),
        _, rfl, _, _, rfl, rfl, (show (0 : Int) < 9 by decide), _, _, rfl, rfl, _, _, _, rfl, by decide, fun H1 s1 => ?_⟩
      refine ⟨_, rfl, _, _, rfl, rfl, mulS (.inr (by decide)), _, rfl, _, rfl, _, _, rfl, rfl, mulS (.inl (by decide)), _, _, rfl, rfl, _, rfl, _, _, rfl, rfl, _, _, rfl, rfl, b2.mulOk b4 (by decide),
        _, rfl, _, _, rfl, rfl, mulS (.inl (by decide)), _, _, rfl, rfl, _, rfl, _, _, rfl, rfl, (show (0 : Int) < 7 by decide), _, _, rfl, rfl, _, _, _, rfl, by decide, fun H2 s2 => ?_⟩
      refine ⟨_, _, rfl, rfl, ?_⟩
      rw [eq] at q
      exact q _ (s1.trans s2)
theorem sc__law_whole : FnScope ["_law_number"] ["_law_number"] (defScope s__law_whole) := ⟨rfl, rfl, rfl, by decide +kernel, rfl, by decide +kernel, by decide +kernel⟩
def sp_law_whole (K : PySem.W.Frag) : Sp := sp_is_whole K
theorem fn__law_whole (T : Tx K mg) : Fn P w K mg base "_law_whole" 1 (sp_is_whole K) := by
  obtain ⟨fd, F⟩ := T.d__law_whole
  refine ⟨_, fd, _, F.ok (CX := CX0) sc__law_whole (fun vs H Q E h => ?_) (fun cdv A outer s H vs Q E hr h => ?_), T.g__law_whole, F.kp, F.bindsN fun _ _ _ _ _ _ us hl => match us, hl with | [_], _ => rfl⟩
  · obtain ⟨v, t, rfl, _⟩ := h; rfl
  · obtain ⟨v, t, rfl, ht, q⟩ := h
    refine ⟨_, PSs.nox (pss_one (ps_ret (pe_and (pe_callB (show CallR _ _ (rIsi K) from call_isi) (by rfl) T.isinstance (by decide +kernel) (pa_cons (pv 0) (pa_cons (pe_gt (n := "int") T.int (by rfl) (by decide +kernel)) pa_nil))) (pe_one (pe_not (pe_callB (show CallR _ _ (rIsi K) from call_isi) (by rfl) T.isinstance (by decide +kernel) (pa_cons (pv 0) (pa_cons (pe_gt (n := "bool") T.bool (by rfl) (by decide +kernel)) pa_nil)))))))), ?_⟩
    obtain ⟨k1, k2, _⟩ := kit_kd ht
    refine ⟨_, rfl, _, _, _, _, _, rfl, .ty _, ht, k1, _, rfl, ?_⟩
    rw [kd_isInt ht] at q
    by_cases e : t = "int"
    · subst e
      exact iteT ⟨_, rfl, _, _, _, _, _, rfl, .ty _, ht, k2, _, rfl, q⟩
    · by_cases e2 : t = "bool"
      · subst e2
        exact iteT ⟨_, rfl, _, _, _, _, _, rfl, .ty _, ht, k2, _, rfl, q⟩
      · have f1 : (t == "int") = false := beq_eq_false_iff_ne.mpr e
        have f2 : (t == "bool") = false := beq_eq_false_iff_ne.mpr e2
        rw [f1] at q
        rw [f1, f2]
        exact iteF q
def lawMany (ns : List Int) : Int := 1 + lawValue (cellAt ns 0) 1 % 6
theorem lawMany_in (ns : List Int) : 1 ≤ lawMany ns ∧ lawMany ns ≤ 6 := by
  have h1 := Int.emod_nonneg (lawValue (cellAt ns 0) 1) (b := 6) (by decide)
  have h2 := Int.emod_lt_of_pos (lawValue (cellAt ns 0) 1) (b := 6) (by decide)
  unfold lawMany
  omega
/-- all the cells of a script -/
def Scr (ns : List Int) : Prop := ns.length ≤ 63 ∧ ∀ z ∈ ns, Bits 1048576 z
theorem Scr.cell {ns : List Int} (h : Scr ns) (k : Int) : Bits 1048576 (cellAt ns k) := by
  unfold cellAt
  rw [List.getD_eq_getElem?_getD]
  cases e : ns[k.toNat]? with
  | none => exact Nat.two_pow_pos _
  | some z => exact h.2 z (List.mem_of_getElem? e)
theorem sc__law_many : FnScope ["_law_script"] ["_law_script"] (defScope s__law_many) := ⟨rfl, rfl, rfl, by decide +kernel, rfl, by decide +kernel, by decide +kernel⟩
def sp_many (K : PySem.W.Frag) : Sp := fun vs H Q _ => ∃ (a : Addr) (ns : List Int), vs = [.ref a] ∧ SqL K H a (ns.map V.int) ∧ Scr ns ∧ ∀ H', Same H H' → Q (.int (lawMany ns)) H'
theorem fn__law_many (T : Tx K mg) : Fn P w K mg base "_law_many" 3 (sp_many K) := by
  obtain ⟨fd, F⟩ := T.d__law_many
  refine ⟨_, fd, _, F.ok (CX := CX0) sc__law_many (fun vs H Q E h => ?_) (fun cdv A outer s H vs Q E hr h => ?_), T.g__law_many, F.kp, F.bindsN fun _ _ _ _ _ _ us hl => match us, hl with | [_], _ => rfl⟩
  · obtain ⟨a, ns, rfl, _⟩ := h; rfl
  · obtain ⟨a, ns, rfl, hs, hb, q⟩ := h
    refine ⟨_, PSs.nox (pss_one (ps_ret (pe_op op_add pe_int (pe_op op_mod (pe_fn (fn__law_value T) (hr.mono (by first | decide | omega)) (by rfl) (pa_cons (pe_fn (fn__law_cell_at T) (hr.mono (by first | decide | omega)) (by rfl) (pa_cons (pv 0) (pa_cons pe_int pa_nil))) (pa_cons pe_int pa_nil))) pe_int)))), ?_⟩
    refine ⟨_, rfl, a, ns, 0, rfl, hs, by decide, _, _, rfl, (hb.cell 0).mono (by decide), by decide, by decide, fun H1 s1 => ?_⟩
    exact ⟨_, _, rfl, rfl, (show (0 : Int) < 6 by decide), _, _, rfl, rfl, q _ s1⟩
end
def spLaw (K : PySem.W.Frag) : Sp := fun vs H Q _ => ∃ (a : Addr) (ns : List Int), vs = [.ref a] ∧ SqL K H a (ns.map V.int) ∧ Scr ns ∧ ∀ H', Q (.bl true) H'
end Song

/-! ### Lw2: a law's deeds -/
namespace Song
open PySem L2
inductive Deed where
  | wish (ss : List Int)
  | sing
  | out (n : Int)
def DeedAt (H : Hp) : V → Deed → Prop
  | .ref t, .wish ss => ∃ b, H t = some (.tup [.str "wish", .ref b]) ∧ H b = some (.lst (ss.map V.int))
  | .ref t, .sing => H t = some (.tup [.str "sing", .int 0])
  | .ref t, .out n => H t = some (.tup [.str "out", .int n])
  | _, _ => False
theorem DeedAt.mono {H H' : Hp} (s : Same H H') {v : V} {d : Deed} (h : DeedAt H v d) : DeedAt H' v d := by
  cases v with
  | ref t =>
    cases d with
    | wish ss =>
      obtain ⟨b, h1, h2⟩ := h
      exact ⟨b, s _ _ h1, s _ _ h2⟩
    | sing => exact s _ _ h
    | out n => exact s _ _ h
  | _ => exact h.elim
def DeedOk (many : Int) : Deed → Prop
  | .wish ss => areSingers ss many = true
  | .sing => True
  | .out n => 0 ≤ n
/-- a list of good deeds in the heap -/
def Deeds (H : Hp) (many : Int) (vs : List V) : Prop := ∀ v ∈ vs, ∃ d, DeedAt H v d ∧ DeedOk many d
theorem Deeds.mono {H H' : Hp} {many : Int} {vs : List V} (s : Same H H') (h : Deeds H many vs) : Deeds H' many vs := fun v hv => by
  obtain ⟨d, h1, h2⟩ := h v hv
  exact ⟨d, h1.mono s, h2⟩
theorem Deeds.snoc {H : Hp} {many : Int} {vs : List V} {v : V} {d : Deed} (h : Deeds H many vs) (h1 : DeedAt H v d) (h2 : DeedOk many d) : Deeds H many (vs ++ [v]) := fun u hu => by
  rcases List.mem_append.mp hu with q | q
  · exact h u q
  · rw [List.mem_singleton.mp q]; exact ⟨d, h1, h2⟩
section
variable {P : Program} {w : World} {K : PySem.W.Frag} {mg : Str → Option Value} {base : Heap}
theorem sc__law_deeds : FnScope ["_law_script", "_law_begin", "_law_end", "_law_many_here", "_law_found", "_law_at", "_law_cell", "_law_number", "_law_kind", "_law_singers", "_law_turn"] ["_law_script", "_law_begin", "_law_end", "_law_many_here"] (defScope s__law_deeds) := ⟨rfl, rfl, rfl, by decide +kernel, rfl, by decide +kernel, by decide +kernel⟩
def sp_deeds (K : PySem.W.Frag) : Sp := fun vs H Q _ => ∃ (S : List Addr) (a : Addr) (ns : List Int) (b e many : Int), vs = [.ref a, .int b, .int e, .int many] ∧ SqL K H a (ns.map V.int) ∧ Scr ns ∧ 0 ≤ b ∧ 0 ≤ e ∧ 1 ≤ many ∧ many ≤ 6 ∧ (∀ a ∈ S, ∃ o, H a = some o) ∧
  ∀ l H' ds, H l = none → Same H H' → H' l = some (.lst ds) → Deeds (off (l :: S) H') many ds → ds.length ≤ 63 → ds.length ≤ (e - b).toNat → Q (.ref l) H'
theorem fn__law_deeds (T : Tx K mg) : Fn P w K mg base "_law_deeds" 3 (sp_deeds K) := by
  obtain ⟨fd, F⟩ := T.d__law_deeds
  refine ⟨_, fd, _, F.ok (CX := CX0) sc__law_deeds (fun vs H Q E h => ?_) (fun cdv A outer s H vs Q E hr h => ?_), T.g__law_deeds, F.kp, F.bindsN fun _ _ _ _ _ _ us hl => match us, hl with | [_, _, _, _], _ => rfl⟩
  · obtain ⟨S, a, ns, b, e, m, rfl, _⟩ := h; rfl
  · obtain ⟨S, a, ns, b, e, many, rfl, hs, hb, hb0, he0, hm1, hm6, dom, q⟩ := h
    refine ⟨_, PSs.nox (pss_cons (ps_set (i := 4) sc__law_deeds.nd rfl (by first | exact Or.inl rfl | exact Or.inr rfl) (pe_lst pa_nil))
      (pss_cons (ps_for PassesOwn.never rfl (show PI _ _ _ (iEnum K _) from pi_enum (by rfl) T.enumerate (pa_cons (pe_slice (show SlR _ (rSlL K) from sl_list) (pv 0) (po_some (pv 1)) (po_some (pv 2))) pa_nil)) (show PG _ _ (gTup K _ _) from pg_tup rfl (pgs_cons (pg_name (i := 5) sc__law_deeds.nd rfl (by first | exact Or.inl rfl | exact Or.inr rfl)) (pgs_cons (pg_name (i := 6) sc__law_deeds.nd rfl (by first | exact Or.inl rfl | exact Or.inr rfl)) pgs_nil)))
      (pss_cons (ps_set (i := 7) sc__law_deeds.nd rfl (by first | exact Or.inl rfl | exact Or.inr rfl) (pe_op op_fdivW (pe_fn (fn__law_value T) (hr.mono (by first | decide | omega)) (by rfl) (pa_cons (pv 6) (pa_cons (pe_op op_add pe_int (pe_op op_mod (pv 5) pe_int)) pa_nil))) pe_int))
      (pss_cons (ps_set (i := 8) sc__law_deeds.nd rfl (by first | exact Or.inl rfl | exact Or.inr rfl) (pe_op op_mod (pv 7) pe_int))
      (pss_cons (ps_set (i := 9) sc__law_deeds.nd rfl (by first | exact Or.inl rfl | exact Or.inr rfl) (pe_lst pa_nil))
      (pss_cons (ps_for PassesOwn.never rfl (pi_range1 (by rfl) T.range (pa_cons (pe_op op_add pe_int (pe_op op_mod (pe_op op_fdivW (pv 7) pe_int) pe_int)) pa_nil)) (pg_name (i := 10) sc__law_deeds.nd rfl (by first | exact Or.inl rfl | exact Or.inr rfl))
      (pss_one (ps_expr (show PE _ _ (tBM K _ _ _ _) from pe_bm PySem.F.plainAttrs_list PySem.F.slot_list_append PySem.F.type_list_append mt_append (pv 9) (pa_cons (pe_op op_mod (pe_op op_fdivW (pe_op op_fdivW (pv 7) pe_int) (pe_op op_add (pe_op op_mulO pe_int (pv 10)) pe_int)) (pv 3)) pa_nil)))))
      (pss_cons (ps_set (i := 9) sc__law_deeds.nd rfl (by first | exact Or.inl rfl | exact Or.inr rfl) (pe_callB (show CallR _ _ (rSortedSet w) from cr_sortedSet (by rfl)) (by rfl) T.sorted (by decide +kernel) (pa_cons (pe_callTy (show CallR _ _ (rSetI K w) from cr_setI (by rfl)) (by rfl) T.set (by decide +kernel) (pa_cons (pv 9) pa_nil)) pa_nil)))
      (pss_one (ps_if (pt_cmpR op_lt (pv 8) pe_int (nomark _)) (pss_one (ps_expr (show PE _ _ (tBM K _ _ _ _) from pe_bm PySem.F.plainAttrs_list PySem.F.slot_list_append PySem.F.type_list_append mt_append (pv 4) (pa_cons (pe_tup (pa_cons pe_str (pa_cons (pe_ifExp (pt_cmpR op_eq (pv 8) pe_int (nomark _)) (pv 9) (pe_slice (show SlR _ (rSlL K) from sl_list) (pv 9) po_none (po_some pe_int))) pa_nil))) pa_nil)))) (pss_one (ps_expr (show PE _ _ (tBM K _ _ _ _) from pe_bm PySem.F.plainAttrs_list PySem.F.slot_list_append PySem.F.type_list_append mt_append (pv 4) (pa_cons (pe_ifExp (pt_cmpR op_lt (pv 8) pe_int (nomark _)) (pe_tup (pa_cons pe_str (pa_cons pe_int pa_nil))) (pe_tup (pa_cons pe_str (pa_cons (pe_op op_fdivW (pv 7) pe_int) pa_nil)))) pa_nil))))))))))))
      (pss_one (ps_ret (pv 4))))), ?_⟩
    refine ⟨Nat.zero_le _, fun l nl => ?_⟩
    refine to_new nl fun H1 s1 hl => ?_
    refine ⟨_, rfl, _, rfl, _, rfl, _, rfl, _, rfl, a, _, rfl, s1.seq hs, fun c nc => ?_⟩
    obtain ⟨ms, em, lm, hm⟩ := cut_ints ns hb0 he0
    rw [em]
    refine to_new nc fun H2 s2 hc => ?_
    have lm63 : ms.length ≤ 63 := by
      have := congrArg List.length em
      unfold cutV at this
      rw [List.length_take, List.length_drop, List.length_map, List.length_map] at this
      have := hb.1
      omega
    refine ⟨c, _, rfl, SqL.of hc, for_it (walk_enum (xs := ms.map V.int)) (fun i σ H' => ∃ ds x5 x6 x7 x8 x9 x10, σ = [some (.ref a), some (.int b), some (.int e), some (.int many), some (.ref l), x5, x6, x7, x8, x9, x10] ∧ Same H H' ∧ H' c = some (.lst (ms.map V.int)) ∧
      H' l = some (.lst ds) ∧ Deeds (off (l :: S) H') many ds ∧ ds.length = i) ?_ ?_ ?_ ?_⟩
    · exact ⟨[], _, _, _, _, _, _, rfl, s1.trans s2, hc, s2 _ _ hl, (fun v hv => by cases hv), rfl⟩
    · rintro i σ H' _ ⟨ds, _, _, _, _, _, _, _, _, h, _⟩
      exact SqL.of h
    · rintro i v σ H3 H4 hi ⟨ds, x5, x6, x7, x8, x9, x10, rfl, s3, hc3, hl3, hds, hdl⟩ ⟨t, x, y, rfl, nt, rfl, hx, hy⟩
      cases hx
      obtain ⟨z, rfl, hz⟩ := int_at hy
      rw [List.length_map] at hi
      have hzb : Bits 1048600 z := (hb.2 z (hm z (List.mem_of_getElem? hz))).mono (by decide)
      refine ⟨t, _, rfl, SqT.of upd_same, rfl, _, _, rfl, _, _, rfl, rfl, ?_⟩
      refine to_new nt fun H5 s5 ht => ?_
      refine ⟨_, rfl, _, rfl, _, _, rfl, rfl, (show (0 : Int) < 5 by decide), _, _, rfl, rfl, z, _, rfl, hzb, ?_, ?_, fun H6 s6 => ?_⟩
      · have := Int.emod_nonneg (i : Int) (b := 5) (by decide); omega
      · have := Int.emod_lt_of_pos (i : Int) (b := 5) (by decide); omega
      generalize hv : lawValue z (2 + (i : Int) % 5) = val
      have hv0 : 0 ≤ val := by rw [← hv]; exact lawValue_nn _ _
      refine ⟨_, _, rfl, rfl, ⟨by decide, by decide +kernel⟩, ?_⟩
      have hn0 : 0 ≤ val / 3 := Int.ediv_nonneg hv0 (by decide)
      refine ⟨_, rfl, _, _, rfl, rfl, (show (0 : Int) < 7 by decide), ?_⟩
      refine ⟨Nat.zero_le _, fun g ng => ?_⟩
      refine to_new ng fun H7 s7 hg => ?_
      have r0 := Int.emod_nonneg (val / 3 / 49) (b := 3) (by decide)
      have r3 := Int.emod_lt_of_pos (val / 3 / 49) (b := 3) (by decide)
      refine ⟨_, rfl, _, _, rfl, rfl, ⟨by decide, by decide +kernel⟩, _, _, rfl, rfl, (show (0 : Int) < 3 by decide), _, _, rfl, rfl, _, rfl, by omega, by omega, ?_⟩
      refine for_range (lo := 0) (fun j σ H8 => ∃ (xs : List Int) (y : Option V), σ = [some (.ref a), some (.int b), some (.int e), some (.int many), some (.ref l), some (.int (i : Nat)), some (.int z), some (.int (val / 3)), some (.int (val / 3 % 7)), some (.ref g), y] ∧
        Fra [g] H7 H8 ∧ H8 g = some (.lst (xs.map V.int)) ∧ xs.length = j ∧ ∀ x ∈ xs, 0 ≤ x ∧ x < many) ?_ ?_ ?_
      · exact ⟨[], _, rfl, Fra.refl _ _, hg, rfl, fun x hx => by cases hx⟩
      · rintro j σ H8 hj ⟨xs, y, rfl, f8, hg8, hxl, hxs⟩
        have r1 : (0 : Int) < 5 * (0 + (j : Int)) + 1 := by omega
        refine ⟨_, rfl, .inl ⟨rfl, _, SqL.of hg8⟩, _, rfl, _, _, rfl, rfl, ⟨by decide, by decide +kernel⟩, _, rfl, _, _, rfl, rfl, mulS (.inl (by decide)), _, _, rfl, rfl, _, _, rfl, rfl, ⟨r1, ?_⟩, _, rfl, _, _, rfl, rfl, (show 0 < many by omega),
          g, _, _, rfl, rfl, hg8, lt_line (by rw [List.length_map]; omega), ?_⟩
        · exact Nat.lt_of_le_of_lt (Nat.log2_le_self _) (by omega)
        rw [← snoc_ints]
        refine to_put fun H9 f9 hg9 => ?_
        refine ⟨_, _, rfl, f8.trans f9, hg9, by simp [hxl], fun x hx => ?_⟩
        rcases List.mem_append.mp hx with h | h
        · exact hxs x h
        · rw [List.mem_singleton.mp h]
          exact ⟨Int.emod_nonneg _ (by omega), Int.emod_lt_of_pos _ (by omega)⟩
      · rintro σ H8 ⟨xs, y, rfl, f8, hg8, hxl, hxs⟩
        have s37 : Same H3 H7 := (s5.trans s6).trans s7
        have n3g : H3 g = none := (s5.trans s6).free ng
        have s38 : Same H3 H8 := f8.back s37 (by simpa using n3g)
        have hl8 := s38 _ _ hl3
        have x1 : 1 ≤ xs.length ∧ xs.length ≤ 3 := by omega
        refine ⟨_, rfl, g, xs, rfl, SqL.of hg8, by omega, fun u cN hcN nu => ?_⟩
        refine to_new nu fun H9 s9 hu => ?_
        refine ⟨u, _, _, rfl, hu, by omega, fun ks r pw mem len nr => ?_⟩
        refine to_new nr fun H10 s10 hr => ?_
        have hk : areSingers ks many = true := by
          refine areS_of ?_ (by omega) (fun s hs => hxs s (of_decide_eq_true ((mem s).mp hs))) (rising_of pw)
          cases hxs0 : xs with
          | nil => rw [hxs0] at x1; simp at x1
          | cons x0 rx =>
            have : x0 ∈ ks := (mem x0).mpr (decide_eq_true (by rw [hxs0]; simp))
            exact List.length_pos_iff.mpr (List.ne_nil_of_mem this)
        have s310 : Same H3 H10 := (s38.trans s9).trans s10
        refine ⟨_, rfl, _, _, rfl, rfl, _, rfl, ?_⟩
        have out : ∀ {H11 : Hp} {t : Addr}, Same H10 H11 → H11 t = none → t ∉ l :: S := fun {H11 t} s11 nt h => by
          rcases List.mem_cons.mp h with z | z
          · rw [z, s11 _ _ (s310 _ _ hl3)] at nt; cases nt
          · exact new_out (dom_same (s3.trans (s310.trans s11)) dom) nt z
        have outr : ∀ {H11 : Hp} {t : Addr}, Same H3 H11 → H11 t = none → t ∉ l :: S := fun {H11 t} s11 nt h => by
          rcases List.mem_cons.mp h with z | z
          · rw [z, s11 _ _ hl3] at nt; cases nt
          · exact new_out (dom_same (s3.trans s11) dom) nt z
        have fin : ∀ (H11 : Hp) (t : Addr) (d : Deed) (o : HO), Same H10 H11 → H11 t = none → DeedAt (off (l :: S) (upd H11 t o)) (.ref t) d → DeedOk many d → H10 l = some (.lst ds) →
            ∃ ds' y5 y6 y7 y8 y9 y10, [some (V.ref a), some (.int b), some (.int e), some (.int many), some (.ref l), some (.int (i : Nat)), some (.int z), some (.int (val / 3)), some (.int (val / 3 % 7)), some (.ref r), y] = [some (.ref a), some (.int b), some (.int e), some (.int many), some (.ref l), y5, y6, y7, y8, y9, y10] ∧
              Same H (upd (upd H11 t o) l (.lst (ds ++ [.ref t]))) ∧ (upd (upd H11 t o) l (.lst (ds ++ [.ref t]))) c = some (.lst (ms.map V.int)) ∧ (upd (upd H11 t o) l (.lst (ds ++ [.ref t]))) l = some (.lst ds') ∧ Deeds (off (l :: S) (upd (upd H11 t o) l (.lst (ds ++ [.ref t])))) many ds' ∧ ds'.length = i + 1 := by
          intro H11 t d o s11 nt11 hd hok hl10
          have sT : Same H3 (upd H11 t o) := (s310.trans s11).trans (Same.new nt11)
          have ncl : c ≠ l := (ne_of_none hl nc).symm
          refine ⟨_, _, _, _, _, _, _, rfl, same_put nl (s3.trans sT), ?_, upd_same, ?_, by simp [hdl]⟩
          · rw [upd_ne ncl]; exact sT _ _ hc3
          · rw [off_put (by simp)]
            exact (hds.mono (off_mono sT)).snoc hd hok
        have hl10 := s310 _ _ hl3
        by_cases h4 : val / 3 % 7 < 4
        · rw [decide_eq_true h4]
          refine iteT ⟨_, rfl, .inl ⟨rfl, _, SqL.of hl10⟩, _, rfl, rfl, _, rfl, ?_⟩
          by_cases h0 : V.int (val / 3 % 7) = V.int 0
          · rw [decide_eq_true h0]
            refine iteT ⟨_, rfl, by show 2 ≤ sizeLine; decide, fun t nt => ?_⟩
            refine ⟨l, _, _, rfl, rfl, (Same.new nt) _ _ hl10, lt_line (by omega), ?_⟩
            refine fin H10 t (.wish ks) _ (Same.refl _) nt ⟨r, ?_, ?_⟩ hk hl10
            · rw [off_out (out (Same.refl _) nt)]; exact upd_same
            · have nrl : r ≠ l := (ne_of_none (s9 _ _ hl8) nr).symm
              rw [off_out (outr (s38.trans s9) nr)]; exact (Same.new nt) _ _ hr
          · rw [decide_eq_false h0]
            refine iteF ⟨_, rfl, _, rfl, r, _, rfl, SqL.of hr, fun r2 nr2 => ?_⟩
            rw [cut_to1]
            refine to_new nr2 fun H11 s11 hr2 => ?_
            refine ⟨by show 2 ≤ sizeLine; decide, fun t nt => ?_⟩
            refine ⟨l, _, _, rfl, rfl, (Same.new nt) _ _ (s11 _ _ hl10), lt_line (by omega), ?_⟩
            refine fin H11 t (.wish (ks.take 1)) _ s11 nt ⟨r2, ?_, ?_⟩ (areS_take hk) hl10
            · rw [off_out (out s11 nt)]; exact upd_same
            · have nrl : r2 ≠ l := (ne_of_none hl10 nr2).symm
              rw [off_out (out (Same.refl _) nr2)]; exact (Same.new nt) _ _ hr2
        · rw [decide_eq_false h4]
          refine iteF ⟨_, rfl, .inl ⟨rfl, _, SqL.of hl10⟩, _, rfl, _, _, rfl, rfl, _, rfl, ?_⟩
          by_cases h6 : val / 3 % 7 < 6
          · rw [decide_eq_true h6]
            refine iteT ⟨by show 2 ≤ sizeLine; decide, fun t nt => ?_⟩
            refine ⟨l, _, _, rfl, rfl, (Same.new nt) _ _ hl10, lt_line (by omega), ?_⟩
            refine fin H10 t .sing _ (Same.refl _) nt ?_ trivial hl10
            show off (l :: S) _ t = _
            rw [off_out (out (Same.refl _) nt)]; exact upd_same
          · rw [decide_eq_false h6]
            refine iteF ⟨_, rfl, _, _, rfl, rfl, ⟨by decide, by decide +kernel⟩, by show 2 ≤ sizeLine; decide, fun t nt => ?_⟩
            refine ⟨l, _, _, rfl, rfl, (Same.new nt) _ _ hl10, lt_line (by omega), ?_⟩
            refine fin H10 t (.out (val / 3 / 343)) _ (Same.refl _) nt ?_ (Int.ediv_nonneg hn0 (by decide)) hl10
            show off (l :: S) _ t = _
            rw [off_out (out (Same.refl _) nt)]; exact upd_same
    · rintro σ H3 ⟨ds, _, _, _, _, _, _, rfl, s3, hc3, hl3, hds, hdl⟩
      rw [List.length_map] at hdl
      exact ⟨_, rfl, q l H3 ds nl s3 hl3 hds (by omega) (by omega)⟩
end
end Song

/-! ### Lw3: the law's own state of an evening, a dict -/
namespace Song
open PySem L2
def stD (A : Ad) (g : Int) : List (Key × V) := [(.inr "rounds", .ref A.ro), (.inr "last", .ref A.la), (.inr "going", .int g), (.inr "waits", .ref A.wa), (.inr "tale", .ref A.ca)]
theorem stD_last (A : Ad) (g : Int) : valV (stD A g) (.inr "last") = some (.ref A.la) := by kernel_rfl
theorem stD_going (A : Ad) (g : Int) : valV (stD A g) (.inr "going") = some (.int g) := by kernel_rfl
theorem stD_rounds (A : Ad) (g : Int) : valV (stD A g) (.inr "rounds") = some (.ref A.ro) := by kernel_rfl
theorem stD_waits (A : Ad) (g : Int) : valV (stD A g) (.inr "waits") = some (.ref A.wa) := by kernel_rfl
theorem stD_tale (A : Ad) (g : Int) : valV (stD A g) (.inr "tale") = some (.ref A.ca) := by kernel_rfl
theorem stD_put (A : Ad) (g g' : Int) : putK (stD A g) (.inr "going") (.int g') = stD A g' := by kernel_rfl
structure LC (H : Hp) (p : Addr) (A : Ad) (last : List Int) (going : Int) (rounds waiting : List Int) (cs : List V) : Prop where
  pp : H p = some (.dK (stD A going))
  la : H A.la = some (.lst (last.map V.int))
  ro : H A.ro = some (.lst (rounds.map V.int))
  wa : H A.wa = some (.lst (waiting.map V.int))
  ca : H A.ca = some (.lst cs)
  nd : (own p A).Nodup
section
variable {H H' : Hp} {p : Addr} {A : Ad} {last : List Int} {going : Int} {rounds waiting : List Int} {cs : List V}
theorem LC.gLast (c : LC H p A last going rounds waiting cs) : DGet H p (.str "last") (some (.ref A.la)) := by rw [← stD_last A going]; exact DGet.k (k := Sum.inr "last") c.pp
theorem LC.gGoing (c : LC H p A last going rounds waiting cs) : DGet H p (.str "going") (some (.int going)) := by rw [← stD_going A going]; exact DGet.k (k := Sum.inr "going") c.pp
theorem LC.gRounds (c : LC H p A last going rounds waiting cs) : DGet H p (.str "rounds") (some (.ref A.ro)) := by rw [← stD_rounds A going]; exact DGet.k (k := Sum.inr "rounds") c.pp
theorem LC.gWaits (c : LC H p A last going rounds waiting cs) : DGet H p (.str "waits") (some (.ref A.wa)) := by rw [← stD_waits A going]; exact DGet.k (k := Sum.inr "waits") c.pp
theorem LC.gTale (c : LC H p A last going rounds waiting cs) : DGet H p (.str "tale") (some (.ref A.ca)) := by rw [← stD_tale A going]; exact DGet.k (k := Sum.inr "tale") c.pp
theorem LC.mono (s : Same H H') (c : LC H p A last going rounds waiting cs) : LC H' p A last going rounds waiting cs := by
  obtain ⟨h1, h2, h3, h4, h5, nd⟩ := c
  exact ⟨s _ _ h1, s _ _ h2, s _ _ h3, s _ _ h4, s _ _ h5, nd⟩
theorem LC.ne (c : LC H p A last going rounds waiting cs) : p ≠ A.la ∧ p ≠ A.ro ∧ p ≠ A.wa ∧ p ≠ A.ca ∧ A.la ≠ A.ro ∧ A.la ≠ A.wa ∧ A.la ≠ A.ca ∧ A.ro ≠ A.wa ∧ A.ro ≠ A.ca ∧ A.wa ≠ A.ca := by
  have h := c.nd
  unfold own at h
  simp only [List.nodup_cons, List.mem_cons, List.not_mem_nil, or_false, not_or] at h
  obtain ⟨⟨a1, a2, a3, a4⟩, ⟨b1, b2, b3⟩, ⟨c1, c2⟩, d1, _⟩ := h
  exact ⟨a1, a2, a3, a4, b1, b2, b3, c1, c2, d1⟩
theorem LC.putLa (c : LC H p A last going rounds waiting cs) (l : List Int) : LC (upd H A.la (.lst (l.map V.int))) p A l going rounds waiting cs := by
  obtain ⟨a1, a2, a3, a4, b1, b2, b3, c1, c2, d1⟩ := c.ne
  obtain ⟨h1, h2, h3, h4, h5, nd⟩ := c
  exact ⟨by rw [upd_ne a1]; exact h1, upd_same, by rw [upd_ne b1.symm]; exact h3, by rw [upd_ne b2.symm]; exact h4, by rw [upd_ne b3.symm]; exact h5, nd⟩
theorem LC.putRo (c : LC H p A last going rounds waiting cs) (l : List Int) : LC (upd H A.ro (.lst (l.map V.int))) p A last going l waiting cs := by
  obtain ⟨a1, a2, a3, a4, b1, b2, b3, c1, c2, d1⟩ := c.ne
  obtain ⟨h1, h2, h3, h4, h5, nd⟩ := c
  exact ⟨by rw [upd_ne a2]; exact h1, by rw [upd_ne b1]; exact h2, upd_same, by rw [upd_ne c1.symm]; exact h4, by rw [upd_ne c2.symm]; exact h5, nd⟩
theorem LC.putWa (c : LC H p A last going rounds waiting cs) (l : List Int) : LC (upd H A.wa (.lst (l.map V.int))) p A last going rounds l cs := by
  obtain ⟨a1, a2, a3, a4, b1, b2, b3, c1, c2, d1⟩ := c.ne
  obtain ⟨h1, h2, h3, h4, h5, nd⟩ := c
  exact ⟨by rw [upd_ne a3]; exact h1, by rw [upd_ne b2]; exact h2, by rw [upd_ne c1]; exact h3, upd_same, by rw [upd_ne d1.symm]; exact h5, nd⟩
theorem LC.putCa (c : LC H p A last going rounds waiting cs) (l : List V) : LC (upd H A.ca (.lst l)) p A last going rounds waiting l := by
  obtain ⟨a1, a2, a3, a4, b1, b2, b3, c1, c2, d1⟩ := c.ne
  obtain ⟨h1, h2, h3, h4, h5, nd⟩ := c
  exact ⟨by rw [upd_ne a4]; exact h1, by rw [upd_ne b3]; exact h2, by rw [upd_ne c2]; exact h3, by rw [upd_ne d1]; exact h4, upd_same, nd⟩
theorem LC.putGo (c : LC H p A last going rounds waiting cs) (g : Int) : LC (upd H p (.dK (stD A g))) p A last g rounds waiting cs := by
  obtain ⟨a1, a2, a3, a4, b1, b2, b3, c1, c2, d1⟩ := c.ne
  obtain ⟨_, h2, h3, h4, h5, nd⟩ := c
  exact ⟨upd_same, by rw [upd_ne a1.symm]; exact h2, by rw [upd_ne a2.symm]; exact h3, by rw [upd_ne a3.symm]; exact h4, by rw [upd_ne a4.symm]; exact h5, nd⟩
end
section
variable {H : Hp} {p : Addr} {A : Ad} {last : List Int} {going : Int} {rounds waiting : List Int} {cs : List V} {Q : Hp → Prop}
@[elab_as_elim] theorem to_laL (c : LC H p A last going rounds waiting cs) (l : List Int) (h : ∀ H', Fra (own p A) H H' → LC H' p A l going rounds waiting cs → Q H') : Q (upd H A.la (.lst (l.map V.int))) :=
  h _ (Fra.put (memA p A).2.1) (c.putLa l)
@[elab_as_elim] theorem to_roL (c : LC H p A last going rounds waiting cs) (l : List Int) (h : ∀ H', Fra (own p A) H H' → LC H' p A last going l waiting cs → Q H') : Q (upd H A.ro (.lst (l.map V.int))) :=
  h _ (Fra.put (memA p A).2.2.1) (c.putRo l)
@[elab_as_elim] theorem to_waL (c : LC H p A last going rounds waiting cs) (l : List Int) (h : ∀ H', Fra (own p A) H H' → LC H' p A last going rounds l cs → Q H') : Q (upd H A.wa (.lst (l.map V.int))) :=
  h _ (Fra.put (memA p A).2.2.2.1) (c.putWa l)
@[elab_as_elim] theorem to_caL (c : LC H p A last going rounds waiting cs) (l : List V) (h : ∀ H', Fra (own p A) H H' → LC H' p A last going rounds waiting l → (∀ b o, b ≠ A.ca → H b = some o → H' b = some o) → Q H') : Q (upd H A.ca (.lst l)) :=
  h _ (Fra.put (memA p A).2.2.2.2) (c.putCa l) fun b o n e => by rw [upd_ne n]; exact e
@[elab_as_elim] theorem to_goL (c : LC H p A last going rounds waiting cs) (g : Int) (h : ∀ H', Fra (own p A) H H' → LC H' p A last g rounds waiting cs → Q H') : Q (upd H p (.dK (stD A g))) :=
  h _ (Fra.put (memA p A).1) (c.putGo g)
end
theorem LC.dom {H H' : Hp} {p : Addr} {A : Ad} {last : List Int} {going : Int} {rounds waiting : List Int} {cs : List V} {S : List Addr} (c : LC H' p A last going rounds waiting cs) (f : Fra (own p A) H H')
    (d : ∀ a ∈ S, ∃ o, H a = some o) : ∀ a ∈ S, ∃ o, H' a = some o := fun a ha => by
  by_cases q : a ∈ own p A
  · unfold own at q
    simp only [List.mem_cons, List.not_mem_nil, or_false] at q
    rcases q with e | e | e | e | e
    · rw [e]; exact ⟨_, c.pp⟩
    · rw [e]; exact ⟨_, c.la⟩
    · rw [e]; exact ⟨_, c.ro⟩
    · rw [e]; exact ⟨_, c.wa⟩
    · rw [e]; exact ⟨_, c.ca⟩
  · obtain ⟨o, h⟩ := d a ha
    exact ⟨o, f a o q h⟩
/-- the dict at p tells st -/
structure Ls (S : List Addr) (H : Hp) (p : Addr) (A : Ad) (st : EvS) : Prop where
  cell : ∃ cs, LC H p A st.last st.going st.rounds st.waiting cs ∧ Parts (off S H) cs st.tale
  sub : ∀ a ∈ own p A, a ∈ S
  dom : ∀ a ∈ S, ∃ o, H a = some o
  few : st.tale.length ≤ 900
theorem Ls.mono {S : List Addr} {H H' : Hp} {p : Addr} {A : Ad} {st : EvS} (s : Same H H') (e : Ls S H p A st) : Ls S H' p A st := by
  obtain ⟨⟨cs, c, q⟩, sub, dom, few⟩ := e
  refine ⟨⟨cs, c.mono s, q.mono (off_mono s)⟩, sub, fun a ha => ?_, few⟩
  obtain ⟨o, h⟩ := dom a ha
  exact ⟨o, s _ _ h⟩
section
variable {P : Program} {w : World} {K : PySem.W.Frag} {mg : Str → Option Value} {base : Heap}
theorem sc__law_open : FnScope ["_law_many_here"] ["_law_many_here"] (defScope s__law_open) := ⟨rfl, rfl, rfl, by decide +kernel, rfl, by decide +kernel, by decide +kernel⟩
def sp_open : Sp := fun vs H Q _ => ∃ n : Int, vs = [.int n] ∧ 1 ≤ n ∧ n ≤ 6 ∧
  ∀ H' p A, Same H H' → LC H' p A (List.replicate n.toNat 0) 1 [] [] [] → H p = none → H A.la = none → H A.ro = none → H A.wa = none → H A.ca = none → Q (.ref p) H'
theorem fn__law_open (T : Tx K mg) : Fn P w K mg base "_law_open" 1 sp_open := by
  obtain ⟨fd, F⟩ := T.d__law_open
  refine ⟨_, fd, _, F.ok (CX := CX0) sc__law_open (fun vs H Q E h => ?_) (fun cdv A outer s H vs Q E hr h => ?_), T.g__law_open, F.kp, F.bindsN fun _ _ _ _ _ _ us hl => match us, hl with | [_], _ => rfl⟩
  · obtain ⟨n, rfl, _⟩ := h; rfl
  · obtain ⟨n, rfl, h1, h6, q⟩ := h
    refine ⟨_, PSs.nox (pss_one (ps_ret (pe_disp (pps_cons pe_str (pe_lst pa_nil) (pps_cons pe_str (pe_op op_rep (pe_lst (pa_cons pe_int pa_nil)) (pv 0)) (pps_cons pe_str pe_int (pps_cons pe_str (pe_lst pa_nil) (pps_cons pe_str (pe_lst pa_nil) pps_nil))))) (by rfl) (by rfl) (fun z => by cases z) (by decide)))), ?_⟩
    intro p np
    refine to_new np fun H1 s1 hp => ?_
    refine ⟨Nat.zero_le _, fun b nb => ?_⟩
    refine to_new nb fun H2 s2 hb => ?_
    refine ⟨by show 1 ≤ sizeLine; decide, fun z nz => ?_⟩
    refine to_new nz fun H3 s3 hz => ?_
    refine ⟨_, rfl, z, n, _, rfl, rfl, hz, by omega, by omega, ?_, fun a na => ?_⟩
    · show 1 * n.toNat ≤ sizeLine
      have : sizeLine = 16777216 := by decide
      omega
    rw [rep_flat]
    refine to_new na fun H4 s4 ha => ?_
    refine ⟨Nat.zero_le _, fun c nc => ?_⟩
    refine to_new nc fun H5 s5 hc => ?_
    refine ⟨Nat.zero_le _, fun d nd => ?_⟩
    refine to_new nd fun H6 s6 hd => ?_
    have s16 : Same H1 H6 := (((s2.trans s3).trans s4).trans s5).trans s6
    refine ⟨s16 _ _ hp, [(.inr "rounds", .ref b), (.inr "last", .ref a), (.inr "going", .int 1), (.inr "waits", .ref c), (.inr "tale", .ref d)], rfl, (by show 5 ≤ 15; decide), ?_⟩
    rw [show mergeK [] ([(.inr "rounds", .ref b), (.inr "last", .ref a), (.inr "going", .int 1), (.inr "waits", .ref c), (.inr "tale", .ref d)] : List (Key × V)) = stD ⟨a, b, c, d⟩ 1 by kernel_rfl]
    have n2 : H b = none := s1.free nb
    have n3 : H a = none := s1.free (s2.free (s3.free na))
    have n4 : H c = none := s1.free (s2.free (s3.free (s4.free nc)))
    have n5 : H d = none := s1.free (s2.free (s3.free (s4.free (s5.free nd))))
    have npb : p ≠ b := ne_of_none hp nb
    have npa : p ≠ a := ne_of_none ((s2.trans s3) _ _ hp) na
    have npc : p ≠ c := ne_of_none (((s2.trans s3).trans s4) _ _ hp) nc
    have npd : p ≠ d := ne_of_none ((((s2.trans s3).trans s4).trans s5) _ _ hp) nd
    have nba : b ≠ a := ne_of_none (s3 _ _ hb) na
    have nbc : b ≠ c := ne_of_none (s4 _ _ (s3 _ _ hb)) nc
    have nbd : b ≠ d := ne_of_none (s5 _ _ (s4 _ _ (s3 _ _ hb))) nd
    have nac : a ≠ c := ne_of_none ha nc
    have nad : a ≠ d := ne_of_none (s5 _ _ ha) nd
    have ncd : c ≠ d := ne_of_none hc nd
    refine q _ p ⟨a, b, c, d⟩ (same_put np (s1.trans s16)) ⟨upd_same, ?_, ?_, ?_, ?_, ?_⟩ np n3 n2 n4 n5
    · show upd H6 p _ a = _
      rw [upd_ne npa.symm, ← rep_ints]; exact s6 _ _ (s5 _ _ ha)
    · show upd H6 p _ b = _
      rw [upd_ne npb.symm]; exact s6 _ _ (s5 _ _ (s4 _ _ (s3 _ _ hb)))
    · show upd H6 p _ c = _
      rw [upd_ne npc.symm]; exact s6 _ _ hc
    · show upd H6 p _ d = _
      rw [upd_ne npd.symm]; exact hd
    · show [p, a, b, c, d].Nodup
      simp only [List.nodup_cons, List.mem_cons, List.not_mem_nil, or_false, not_or]
      exact ⟨⟨npa, npb, npc, npd⟩, ⟨nba.symm, nac, nad⟩, ⟨nbc, nbd⟩, ncd, not_false, List.nodup_nil⟩
theorem sc__law_queue : FnScope ["_law_state", "_law_number", "_law_song"] ["_law_state"] (defScope s__law_queue) := ⟨rfl, rfl, rfl, by decide +kernel, rfl, by decide +kernel, by decide +kernel⟩
def sp_queue : Sp := fun vs H Q _ => ∃ (S : List Addr) (p : Addr) (A : Ad) (st : EvS), vs = [.ref p] ∧ Ls S H p A st ∧ EvOk st ∧
  ∀ l H', H l = none → Same H H' → H' l = some (.lst (st.queue.map V.int)) → Q (.ref l) H'
theorem fn__law_queue (T : Tx K mg) : Fn P w K mg base "_law_queue" 1 sp_queue := by
  obtain ⟨fd, F⟩ := T.d__law_queue
  refine ⟨_, fd, _, F.ok (CX := CX0) sc__law_queue (fun vs H Q E h => ?_) (fun cdv A outer s H vs Q E hr h => ?_), T.g__law_queue, F.kp, F.bindsN fun _ _ _ _ _ _ us hl => match us, hl with | [_], _ => rfl⟩
  · obtain ⟨S, p, A, st, rfl, _⟩ := h; rfl
  · obtain ⟨S, p, A', st, rfl, ev, ok, q⟩ := h
    obtain ⟨⟨cs, c, hq⟩, sub, dom, few⟩ := ev
    refine ⟨_, PSs.nox (pss_one (ps_ret (pe_lc (own := [("_law_number", 1), ("_law_song", 2)]) (g := (gTup K 2 (gCons (gName 1) (gCons (gName 2) gNil)))) (tt := tYes) (by rfl) sc__law_queue.nd (show PI _ _ _ (iList K _) from pi_list (pe_callB (show CallR _ _ (rSortedPO K) from cr_sortedPO) (by rfl) T.sorted (by decide +kernel) (pa_cons (pe_lc (own := [("_law_song", 2)]) (g := (gName 2)) (tt := tYes) (by rfl) sc__law_queue.nd (show PI _ _ _ (iList K _) from pi_list (pe_dget (hu_of hr) (pv 0) pe_str (fun _ _ => rfl))) (blkOk_by (by kernel_rfl)) (fun _ _ _ _ _ => (pg_name (i := 2) sc__law_queue.nd rfl (by first | exact Or.inl rfl | exact Or.inr rfl))) (fun _ _ _ _ _ => pts_nil) (fun _ _ _ _ _ => (pe_tup (pa_cons (pe_ix (show IxR _ (rIxL K) from ix_list) (pe_dget (hu_of hr) (pv 0) pe_str (fun _ _ => rfl)) (pv 2) (fun _ _ => rfl)) (pa_cons (pv 2) pa_nil))))) pa_nil))) (blkOk_by (by kernel_rfl)) (fun _ _ _ _ _ => (show PG _ _ (gTup K _ _) from pg_tup rfl (pgs_cons (pg_name (i := 1) sc__law_queue.nd rfl (by first | exact Or.inl rfl | exact Or.inr rfl)) (pgs_cons (pg_name (i := 2) sc__law_queue.nd rfl (by first | exact Or.inl rfl | exact Or.inr rfl)) pgs_nil)))) (fun _ _ _ _ _ => pts_nil) (fun _ _ _ _ _ => (pv 2))))), ?_⟩
    refine ⟨_, rfl, p, _, rfl, c.gWaits, A'.wa, rfl, ⟨_, SqL.of c.wa⟩, fun D nD => lc_all walk_list sqL_mono (SqL.of c.wa) (fun i H y => ∃ (t : Addr) (s : Int), st.waiting[i]? = some s ∧ y = .ref t ∧ H t = some (.tup [.int (st.rounds.getD s.toNat 0), .int s])) ?_ nD (by rw [List.length_map]; have := ok.w24; omega) ?_ ?_ gname_mono⟩
    · rintro i H1 H2 y s1 ⟨t, s, h1, h2, h3⟩
      exact ⟨t, s, h1, h2, s1 _ _ h3⟩
    · rintro i x H1 H2 acc hi1 s1 hD ⟨rfl, hx⟩ k hk
      obtain ⟨s, rfl, hs⟩ := int_at hx
      obtain ⟨h0, h1⟩ := ok.inb s (List.mem_of_getElem? hs)
      have c1 := c.mono s1
      refine ⟨rfl, _, rfl, p, _, rfl, c1.gRounds, _, rfl, A'.ro, _, _, _, rfl, rfl, SqL.of c1.ro, at_int h0 h1, _, rfl, by show 2 ≤ sizeLine; decide, fun t nt => ?_⟩
      refine hk _ _ (Same.new nt) ⟨t, s, hs, rfl, ?_⟩
      rw [off_out (by simp; exact (ne_of_none hD nt).symm)]
      exact upd_same
    · intro ys H1 s1 hD hly hy
      have hy' : ∀ x ∈ ys, ∃ t, x = V.ref t ∧ H1 t = some (.tup [.int (prOf H1 x).1, .int (prOf H1 x).2]) := fun x hx => by
        obtain ⟨i, hi, rfl⟩ := List.mem_iff_getElem.mp hx
        obtain ⟨t, s, h1, h2, h3⟩ := hy i _ (List.getElem?_eq_getElem hi)
        have h4 := (off_some h3).2
        refine ⟨t, h2, ?_⟩
        rw [h2, prOf_at h4]
        exact h4
      refine ⟨D, ys, prOf H1, rfl, SqL.of hD, hy', fun zs l srt stb nl => ?_⟩
      have hly : ys.length = st.waiting.length := by rw [hly, List.length_map]
      obtain ⟨hz1, hz2⟩ := srt_pairs (rs := st.rounds) (ws := st.waiting) hly (fun i y e => by
        obtain ⟨t, s, h1, h2, h3⟩ := hy i y e
        exact ⟨t, s, h1, h2, (off_some h3).2⟩) srt stb
      refine to_new nl fun H2 s2 hl => ?_
      refine ⟨l, rfl, ⟨_, SqL.of hl⟩, fun D2 nD2 => lc_map (fun z => V.int (prOf H1 z).2) (SqL.of hl) nD2 ?_ ?_ ?_ gtup_mono⟩
      · rw [stb.perm.length_eq]; have := ok.w24; omega
      · intro i z H3 hz s3 k hk
        obtain ⟨t, u, v, rfl, ht, ep⟩ := hz2 z (List.mem_of_getElem? hz)
        have hk2 := hk H3 (Same.refl _)
        rw [ep] at hk2
        exact ⟨t, _, rfl, SqT.of (s3 _ _ (s2 _ _ ht)), rfl, _, _, rfl, _, _, rfl, rfl, rfl, _, rfl, hk2⟩
      · intro H3 s3 hD3
        rw [hz1] at hD3
        exact q D2 H3 (s1.free (s2.free nD2)) ((s1.trans s2).trans s3) hD3
end
end Song

/-! ### Lw4: deeds done to the law's own state -/
namespace Song
open PySem L2
section
variable {P : Program} {w : World} {K : PySem.W.Frag} {mg : Str → Option Value} {base : Heap}
theorem sc__law_wished : FnScope ["_law_state", "_law_singers", "_law_number", "_law_singer", "_law_song"] ["_law_state", "_law_singers"] (defScope s__law_wished) := ⟨rfl, rfl, rfl, by decide +kernel, rfl, by decide +kernel, by decide +kernel⟩
def sp_wished (K : PySem.W.Frag) : Sp := fun vs H Q _ => ∃ (S : List Addr) (p a : Addr) (A : Ad) (st : EvS) (ss : List Int), vs = [.ref p, .ref a] ∧ Ls S H p A st ∧ EvOk st ∧ st.tale.length < 900 ∧ SqL K (off (own p A) H) a (ss.map V.int) ∧
  areSingers ss st.last.length = true ∧ st.rounds.length < 24 ∧
  ∀ H' t, Fra (own p A) H H' → Ls S H' p A (st.wish ss) → H t = none → H' t = some (.tup [.int st.rounds.length, .int (st.num ss)]) → Q (.ref t) H'
theorem fn__law_wished (T : Tx K mg) : Fn P w K mg base "_law_wished" 1 (sp_wished K) := by
  obtain ⟨fd, F⟩ := T.d__law_wished
  refine ⟨_, fd, _, F.ok (CX := CX0) sc__law_wished (fun vs H Q E h => ?_) (fun cdv A outer s H vs Q E hr h => ?_), T.g__law_wished, F.kp, F.bindsN fun _ _ _ _ _ _ us hl => match us, hl with | [_, _], _ => rfl⟩
  · obtain ⟨S, p, a, A, st, ss, rfl, _⟩ := h; rfl
  · obtain ⟨S, p, a, A', st, ss, rfl, ev, ok, hlt, hs, hA, h24, q⟩ := h
    obtain ⟨⟨cs, c, hq⟩, sub, dom, few⟩ := ev
    obtain ⟨s1, s3, sin, _⟩ := areS_len hA
    have hsH : SqL K H a (ss.map V.int) := (off_le _ H).seq hs
    have idS : ∀ x ∈ own p A', x ∈ own p A' := fun _ h => h
    refine ⟨_, PSs.nox (pss_cons (ps_set (i := 2) sc__law_wished.nd rfl (by first | exact Or.inl rfl | exact Or.inr rfl) (pe_callB (show CallR _ _ (rMax K) from cr_max (by rfl)) (by rfl) T.max (by decide +kernel) (pa_cons (pe_op op_cat (pe_lst (pa_cons (pe_dget (hu_of hr) (pv 0) pe_str (fun _ _ => rfl)) pa_nil)) (pe_lc (own := [("_law_singer", 3)]) (g := (gName 3)) (tt := tYes) (by rfl) sc__law_wished.nd (show PI _ _ _ (iList K _) from pi_list (pv 1)) (blkOk_by (by kernel_rfl)) (fun _ _ _ _ _ => (pg_name (i := 3) sc__law_wished.nd rfl (by first | exact Or.inl rfl | exact Or.inr rfl))) (fun _ _ _ _ _ => pts_nil) (fun _ _ _ _ _ => (pe_op op_add (pe_ix (show IxR _ (rIxL K) from ix_list) (pe_dget (hu_of hr) (pv 0) pe_str (fun _ _ => rfl)) (pv 3) (fun _ _ => rfl)) pe_int)))) pa_nil)))
      (pss_cons (ps_set (i := 4) sc__law_wished.nd rfl (by first | exact Or.inl rfl | exact Or.inr rfl) (pe_callB (show CallR _ _ (rLenQ K) from call_len_seq) (by rfl) T.len (by decide +kernel) (pa_cons (pe_dget (hu_of hr) (pv 0) pe_str (fun _ _ => rfl)) pa_nil)))
      (pss_cons (ps_expr (show PE _ _ (tBM K _ _ _ _) from pe_bm PySem.F.plainAttrs_list PySem.F.slot_list_append PySem.F.type_list_append mt_append (pe_dget (hu_of hr) (pv 0) pe_str (fun _ _ => rfl)) (pa_cons (pv 2) pa_nil)))
      (pss_cons (ps_expr (show PE _ _ (tBM K _ _ _ _) from pe_bm PySem.F.plainAttrs_list PySem.F.slot_list_append PySem.F.type_list_append mt_append (pe_dget (hu_of hr) (pv 0) pe_str (fun _ _ => rfl)) (pa_cons (pv 4) pa_nil)))
      (pss_cons (ps_for PassesOwn.never rfl (show PI _ _ _ (iList K _) from pi_list (pv 1)) (pg_name (i := 3) sc__law_wished.nd rfl (by first | exact Or.inl rfl | exact Or.inr rfl))
      (pss_one (ps_asg (pv 2) (pg_sub (pe_dget (hu_of hr) (pv 0) pe_str (fun _ _ => rfl)) (pv 3) set_list))))
      (pss_cons (ps_expr (show PE _ _ (tBM K _ _ _ _) from pe_bm PySem.F.plainAttrs_list PySem.F.slot_list_append PySem.F.type_list_append mt_append (pe_dget (hu_of hr) (pv 0) pe_str (fun _ _ => rfl)) (pa_cons (pe_tup (pa_cons pe_str (pa_cons (pe_callTy (show CallR _ _ (rListO K) from call_list_of) (by rfl) T.list (by decide +kernel) (pa_cons (pv 1) pa_nil)) (pa_cons (pv 4) (pa_cons (pv 2) pa_nil))))) pa_nil)))
      (pss_one (ps_ret (pe_tup (pa_cons (pv 4) (pa_cons (pv 2) pa_nil))))))))))), ?_⟩
    refine ⟨_, rfl, p, _, rfl, c.gGoing, by show 1 ≤ sizeLine; decide, fun g ng => ?_⟩
    refine to_new ng fun H1 t1 hg => ?_
    have c1 := c.mono t1
    refine ⟨_, rfl, a, rfl, ⟨_, t1.seq hsH⟩, fun D nD => lc_map (fun x => match x with | .int s => .int (st.last.getD s.toNat 0 + 1) | _ => .non) (t1.seq hsH) nD (by rw [List.length_map]; omega) ?_ ?_ gname_mono⟩
    · intro i x H2 hx t2 k hk
      obtain ⟨s, rfl, hsi⟩ := int_at hx
      obtain ⟨h0, h1⟩ := sin s (List.mem_of_getElem? hsi)
      have c2 := c1.mono t2
      exact ⟨rfl, _, rfl, p, _, rfl, c2.gLast, _, rfl, A'.la, _, _, _, rfl, rfl, SqL.of c2.la, at_int h0 h1, _, _, rfl, rfl, hk _ (Same.refl _)⟩
    intro H2 t2 hD
    rw [List.map_map] at hD
    have hD' : H2 D = some (.lst ((ss.map fun s => st.last.getD s.toNat 0 + 1).map V.int)) := by rw [List.map_map]; exact hD
    refine ⟨g, D, _, _, rfl, rfl, t2 _ _ hg, hD', ?_, fun m nm => ?_⟩
    · rw [List.length_map, List.length_map]
      exact Nat.le_of_lt (lt_line (show 1 + ss.length ≤ 1000 by omega))
    refine to_new nm fun H3 t3 hm => ?_
    refine ⟨m, st.going :: ss.map fun (s : Int) => st.last.getD s.toNat 0 + 1, rfl, SqL.of hm, by simp, fun mx hmx hle => ?_⟩
    rw [maxL_eq hmx hle, roundFor_law (fun e => by rw [e] at s1; simp at s1)]
    have eN : roundFor st.last st.going ss = st.num ss := rfl
    rw [eN]
    have t13 : Same H H3 := (t1.trans t2).trans t3
    have c3 := c.mono t13
    refine ⟨_, rfl, p, _, rfl, c3.gRounds, A'.ro, _, rfl, .inl (SqL.of c3.ro), ?_⟩
    rw [List.length_map]
    refine ⟨_, rfl, p, _, rfl, c3.gRounds, .inl ⟨rfl, _, SqL.of c3.ro⟩, _, rfl, A'.ro, _, _, rfl, rfl, c3.ro, lt_line (by rw [List.length_map]; omega), ?_⟩
    rw [← snoc_ints]
    refine to_roL c3 _ fun H4 f4 c4 => ?_
    refine ⟨_, rfl, p, _, rfl, c4.gWaits, .inl ⟨rfl, _, SqL.of c4.wa⟩, _, rfl, A'.wa, _, _, rfl, rfl, c4.wa, lt_line (by rw [List.length_map]; have := ok.w24; omega), ?_⟩
    rw [← snoc_ints]
    refine to_waL c4 _ fun H5 f5 c5 => ?_
    have fr5 : Fra (own p A') H H5 := ((Fra.of t13).trans f4).trans f5
    refine ⟨_, rfl, a, rfl, ⟨_, (fr5.le idS).seq hs⟩, for_list (K := K) (a := a) (xs := ss.map V.int)
      (fun i σ H' => (∃ x, σ = [some (.ref p), some (.ref a), some (.int (st.num ss)), x, some (.int st.rounds.length)]) ∧ Fra (own p A') H H' ∧
        LC H' p A' (setAll st.last (ss.take i) (st.num ss)) st.going (st.rounds ++ [st.num ss]) (st.waiting ++ [(st.rounds.length : Int)]) cs) ⟨⟨_, rfl⟩, fr5, c5⟩ ?_ ?_ ?_⟩
    · intro i σ H' _ h
      exact (h.2.1.le idS).seq hs
    · rintro i x σ H' hx ⟨⟨y, rfl⟩, fr, ci⟩
      obtain ⟨s, rfl, hsi⟩ := int_at hx
      obtain ⟨h0, h1⟩ := sin s (List.mem_of_getElem? hsi)
      refine ⟨_, rfl, _, rfl, p, _, rfl, ci.gLast, _, rfl, A'.la, _, _, _, rfl, rfl, ci.la, ixN_of h0 (by rw [List.length_map, setAll_len]; exact h1), ?_⟩
      rw [← List.map_set]
      refine to_laL ci _ fun H6 f6 c6 => ?_
      refine ⟨⟨_, rfl⟩, fr.trans f6, ?_⟩
      rw [List.take_add_one, hsi]
      show LC _ _ _ (setAll st.last (ss.take i ++ [s]) _) _ _ _ _
      rw [setAll_snoc]
      exact c6
    · rintro σ H5 ⟨⟨y, rfl⟩, fr5, c5⟩
      rw [List.length_map, List.take_length] at c5
      refine ⟨_, rfl, p, _, rfl, c5.gTale, .inl ⟨rfl, _, SqL.of c5.ca⟩, _, rfl, a, _, rfl, .inl ((fr5.le idS).seq hs), fun b nb => ?_⟩
      refine to_new nb fun H6 s6 hb => ?_
      refine ⟨_, rfl, _, rfl, by show 4 ≤ sizeLine; decide, fun t nt => ?_⟩
      refine to_new nt fun H7 s7 ht => ?_
      have c7 := c5.mono (s6.trans s7)
      have fr7 : Fra (own p A') H H7 := fr5.trans (Fra.of (s6.trans s7))
      refine ⟨A'.ca, _, _, rfl, rfl, c7.ca, lt_line (by rw [hq.len]; omega), ?_⟩
      refine to_caL c7 _ fun H8 f8 c8 kp => ?_
      have fr8 : Fra (own p A') H H8 := fr7.trans f8
      refine ⟨_, rfl, _, rfl, by show 2 ≤ sizeLine; decide, fun u nu => ?_⟩
      refine to_new nu fun H9 s9 hu => ?_
      have dom5 := c5.dom fr5 dom
      have dom6 := dom_same s6 dom5
      have bS : b ∉ S := new_out dom5 nb
      have tS : t ∉ S := new_out dom6 nt
      have fr9 : Fra (own p A') H H9 := fr8.trans (Fra.of s9)
      refine q H9 u fr9 ⟨⟨_, c8.mono s9, ?_⟩, sub, dom_same s9 (c8.dom fr8 dom), ?_⟩ ?_ hu
      · refine Parts.snoc ?_ (hq.mono (Fra.off (fr9.mono sub)))
        have nca : ∀ x : Addr, x ∉ S → x ≠ A'.ca := fun x hx e => hx (by rw [e]; exact sub _ (memA p A').2.2.2.2)
        exact ⟨b, by rw [off_out tS]; exact s9 _ _ (kp _ _ (nca t tS) ht), by rw [off_out bS]; exact s9 _ _ (kp _ _ (nca b bS) (s7 _ _ hb))⟩
      · show (st.tale ++ [_]).length ≤ 900
        rw [List.length_append, List.length_singleton]; omega
      · have uS : u ∉ S := new_out (c8.dom fr8 dom) nu
        cases e : H u with
        | none => rfl
        | some o => rw [fr8 u o (fun z => uS (sub u z)) e] at nu; cases nu
theorem sc__law_sung : FnScope ["_law_state", "_law_song"] ["_law_state"] (defScope s__law_sung) := ⟨rfl, rfl, rfl, by decide +kernel, rfl, by decide +kernel, by decide +kernel⟩
def sp_sung : Sp := fun vs H Q _ => ∃ (S : List Addr) (p : Addr) (A : Ad) (st : EvS), vs = [.ref p] ∧ Ls S H p A st ∧ EvOk st ∧ st.tale.length < 900 ∧
  ∀ H', Fra (own p A) H H' → Ls S H' p A st.sing → Q (optV st.next) H'
theorem fn__law_sung (T : Tx K mg) : Fn P w K mg base "_law_sung" 2 sp_sung := by
  obtain ⟨fd, F⟩ := T.d__law_sung
  refine ⟨_, fd, _, F.ok (CX := CX0) sc__law_sung (fun vs H Q E h => ?_) (fun cdv A outer s H vs Q E hr h => ?_), T.g__law_sung, F.kp, F.bindsN fun _ _ _ _ _ _ us hl => match us, hl with | [_], _ => rfl⟩
  · obtain ⟨S, p, A, st, rfl, _⟩ := h; rfl
  · obtain ⟨S, p, A', st, rfl, ev, ok, hlt, q⟩ := h
    obtain ⟨⟨cs, c, hq⟩, sub, dom, few⟩ := id ev
    refine ⟨_, PSs.nox (pss_cons (ps_set (i := 1) sc__law_sung.nd rfl (by first | exact Or.inl rfl | exact Or.inr rfl) (pe_ix (show IxR _ (rIxL K) from ix_list) (pe_op op_cat (pe_fn (fn__law_queue T) (hr.mono (by first | decide | omega)) (by rfl) (pa_cons (pv 0) pa_nil)) (pe_lst (pa_cons pe_non pa_nil))) pe_int (fun _ _ => rfl)))
      (pss_cons (ps_if (pt_cmpR op_notN (pv 1) pe_non (nomark _)) (pss_cons (ps_expr (show PE _ _ (tBM K _ _ _ _) from pe_bm PySem.F.plainAttrs_list PySem.F.slot_list_remove PySem.F.type_list_remove mt_remove (pe_dget (hu_of hr) (pv 0) pe_str (fun _ _ => rfl)) (pa_cons (pv 1) pa_nil)))
      (pss_one (ps_dput (hu_of hr) (pv 0) pe_str (pe_ix (show IxR _ (rIxL K) from ix_list) (pe_dget (hu_of hr) (pv 0) pe_str (fun _ _ => rfl)) (pv 1) (fun _ _ => rfl)) rfl))) pss_nil)
      (pss_cons (ps_expr (show PE _ _ (tBM K _ _ _ _) from pe_bm PySem.F.plainAttrs_list PySem.F.slot_list_append PySem.F.type_list_append mt_append (pe_dget (hu_of hr) (pv 0) pe_str (fun _ _ => rfl)) (pa_cons (pe_tup (pa_cons pe_str (pa_cons (pv 1) pa_nil))) pa_nil)))
      (pss_one (ps_ret (pv 1)))))), ?_⟩
    have ql : st.queue.length ≤ 24 := by
      have := inTurn_len st.rounds st.waiting
      have := ok.w24
      unfold EvS.queue; omega
    refine ⟨_, rfl, S, p, A', st, rfl, ev, ok, fun l H1 nl s1 hl => ?_⟩
    refine ⟨by show 1 ≤ sizeLine; decide, fun n nn => ?_⟩
    refine to_new nn fun H2 s2 hn => ?_
    refine ⟨l, n, _, _, rfl, rfl, s2 _ _ hl, hn, ?_, fun m nm => ?_⟩
    · rw [List.length_map]
      exact Nat.le_of_lt (lt_line (show st.queue.length + 1 ≤ 1000 by omega))
    refine to_new nm fun H3 s3 hm => ?_
    have s13 : Same H H3 := (s1.trans s2).trans s3
    have c3 := c.mono s13
    have e1 : atI (st.queue.map V.int ++ [V.non]) 0 = some (optV st.next) := by
      refine atI_nat (j := 0) ?_
      unfold EvS.next
      cases st.queue with
      | nil => rfl
      | cons x r => rfl
    refine ⟨m, _, _, _, rfl, rfl, SqL.of hm, e1, ?_⟩
    refine ⟨_, rfl, rfl, _, rfl, ?_⟩
    cases en : st.next with
    | none =>
      have es : st.sing = { st with tale := st.tale ++ [.sing none] } := by unfold EvS.sing; rw [en]
      refine iteF ?_
      refine ⟨_, rfl, p, _, rfl, c3.gTale, .inl ⟨rfl, _, SqL.of c3.ca⟩, _, rfl, by show 2 ≤ sizeLine; decide, fun t nt => ?_⟩
      refine to_new nt fun H4 s4 ht => ?_
      have c4 := c3.mono s4
      refine ⟨A'.ca, _, _, rfl, rfl, c4.ca, lt_line (by rw [hq.len]; omega), ?_⟩
      refine to_caL c4 _ fun H5 f5 c5 kp => ?_
      have fr5 : Fra (own p A') H H5 := (Fra.of (s13.trans s4)).trans f5
      refine ⟨_, rfl, ?_⟩
      have tS : t ∉ S := new_out (dom_same s13 dom) nt
      rw [en, es] at q
      refine q H5 fr5 ⟨⟨_, c5, Parts.snoc ?_ (hq.mono (Fra.off (fr5.mono sub)))⟩, sub, c5.dom fr5 dom, ?_⟩
      · show off S H5 t = _
        rw [off_out tS]
        exact kp _ _ (fun z => tS (by rw [z]; exact sub _ (memA p A').2.2.2.2)) ht
      · show (st.tale ++ [_]).length ≤ 900
        rw [List.length_append, List.length_singleton]; omega
    | some x =>
      have hx := EvS.next_mem en
      obtain ⟨h0, h1⟩ := ok.inb x hx
      obtain ⟨j, j1, j2, j3⟩ := erase_at hx
      refine iteT ?_
      refine ⟨_, rfl, p, _, rfl, c3.gWaits, .inl ⟨rfl, _, SqL.of c3.wa⟩, _, rfl, A'.wa, _, _, j, rfl, rfl, c3.wa, j1, j2, ?_⟩
      rw [j3]
      refine to_waL c3 _ fun H4 f4 c4 => ?_
      refine ⟨_, rfl, p, _, rfl, c4.gRounds, _, rfl, A'.ro, _, _, _, rfl, rfl, SqL.of c4.ro, at_int h0 h1, _, rfl, p, _, rfl, DPut.k (k := Sum.inr "going") c4.pp (by show 5 < sizeLine; decide), ?_⟩
      rw [stD_put]
      refine to_goL c4 _ fun H5 f5 c5 => ?_
      have fr5 : Fra (own p A') H H5 := ((Fra.of s13).trans f4).trans f5
      refine ⟨_, rfl, p, _, rfl, c5.gTale, .inl ⟨rfl, _, SqL.of c5.ca⟩, _, rfl, by show 2 ≤ sizeLine; decide, fun t nt => ?_⟩
      refine to_new nt fun H6 s6 ht => ?_
      have c6 := c5.mono s6
      refine ⟨A'.ca, _, _, rfl, rfl, c6.ca, lt_line (by rw [hq.len]; omega), ?_⟩
      refine to_caL c6 _ fun H7 f7 c7 kp => ?_
      have fr7 : Fra (own p A') H H7 := (fr5.trans (Fra.of s6)).trans f7
      refine ⟨_, rfl, ?_⟩
      have tS : t ∉ S := new_out (c5.dom fr5 dom) nt
      have es : st.sing = { st with waiting := st.waiting.erase x, going := st.rounds.getD x.toNat 0, tale := st.tale ++ [.sing (some x)] } := by unfold EvS.sing; rw [en]
      rw [en, es] at q
      refine q H7 fr7 ⟨⟨_, c7, Parts.snoc ?_ (hq.mono (Fra.off (fr7.mono sub)))⟩, sub, c7.dom fr7 dom, ?_⟩
      · show off S H7 t = _
        rw [off_out tS]
        exact kp _ _ (fun z => tS (by rw [z]; exact sub _ (memA p A').2.2.2.2)) ht
      · show (st.tale ++ [_]).length ≤ 900
        rw [List.length_append, List.length_singleton]; omega
theorem sc__law_out : FnScope ["_law_state", "_law_song"] ["_law_state", "_law_song"] (defScope s__law_out) := ⟨rfl, rfl, rfl, by decide +kernel, rfl, by decide +kernel, by decide +kernel⟩
def sp_out : Sp := fun vs H Q _ => ∃ (S : List Addr) (p : Addr) (A : Ad) (st : EvS) (n : Int), vs = [.ref p, .int n] ∧ Ls S H p A st ∧ EvOk st ∧ st.tale.length < 900 ∧ n ∈ st.waiting ∧
  ∀ H', Fra (own p A) H H' → Ls S H' p A (st.out n) → Q (.int (st.out n).waiting.length) H'
theorem fn__law_out (T : Tx K mg) : Fn P w K mg base "_law_out" 1 sp_out := by
  obtain ⟨fd, F⟩ := T.d__law_out
  refine ⟨_, fd, _, F.ok (CX := CX0) sc__law_out (fun vs H Q E h => ?_) (fun cdv A outer s H vs Q E hr h => ?_), T.g__law_out, F.kp, F.bindsN fun _ _ _ _ _ _ us hl => match us, hl with | [_, _], _ => rfl⟩
  · obtain ⟨S, p, A, st, n, rfl, _⟩ := h; rfl
  · obtain ⟨S, p, A', st, n, rfl, ev, ok, hlt, hn, q⟩ := h
    obtain ⟨⟨cs, c, hq⟩, sub, dom, few⟩ := id ev
    refine ⟨_, PSs.nox (pss_cons (ps_expr (show PE _ _ (tBM K _ _ _ _) from pe_bm PySem.F.plainAttrs_list PySem.F.slot_list_remove PySem.F.type_list_remove mt_remove (pe_dget (hu_of hr) (pv 0) pe_str (fun _ _ => rfl)) (pa_cons (pv 1) pa_nil)))
      (pss_cons (ps_expr (show PE _ _ (tBM K _ _ _ _) from pe_bm PySem.F.plainAttrs_list PySem.F.slot_list_append PySem.F.type_list_append mt_append (pe_dget (hu_of hr) (pv 0) pe_str (fun _ _ => rfl)) (pa_cons (pe_tup (pa_cons pe_str (pa_cons (pv 1) pa_nil))) pa_nil)))
      (pss_one (ps_ret (pe_callB (show CallR _ _ (rLenQ K) from call_len_seq) (by rfl) T.len (by decide +kernel) (pa_cons (pe_dget (hu_of hr) (pv 0) pe_str (fun _ _ => rfl)) pa_nil)))))), ?_⟩
    obtain ⟨j, j1, j2, j3⟩ := erase_at hn
    refine ⟨_, rfl, p, _, rfl, c.gWaits, .inl ⟨rfl, _, SqL.of c.wa⟩, _, rfl, A'.wa, _, _, j, rfl, rfl, c.wa, j1, j2, ?_⟩
    rw [j3]
    refine to_waL c _ fun H3 f3 c3 => ?_
    refine ⟨_, rfl, p, _, rfl, c3.gTale, .inl ⟨rfl, _, SqL.of c3.ca⟩, _, rfl, by show 2 ≤ sizeLine; decide, fun t nt => ?_⟩
    refine to_new nt fun H5 s5 ht => ?_
    have c5 := c3.mono s5
    refine ⟨A'.ca, _, _, rfl, rfl, c5.ca, lt_line (by rw [hq.len]; omega), ?_⟩
    refine to_caL c5 _ fun H6 f6 c6 kp => ?_
    have fr6 : Fra (own p A') H H6 := (f3.trans (Fra.of s5)).trans f6
    refine ⟨_, rfl, p, _, rfl, c6.gWaits, A'.wa, _, rfl, .inl (SqL.of c6.wa), ?_⟩
    rw [List.length_map]
    have tS : t ∉ S := new_out (c3.dom f3 dom) nt
    refine q H6 fr6 ⟨⟨_, c6, Parts.snoc ?_ (hq.mono (Fra.off (fr6.mono sub)))⟩, sub, c6.dom fr6 dom, ?_⟩
    · show off S H6 t = _
      rw [off_out tS]
      exact kp _ _ (fun z => tS (by rw [z]; exact sub _ (memA p A').2.2.2.2)) ht
    · show (st.tale ++ [_]).length ≤ 900
      rw [List.length_append, List.length_singleton]; omega
end
end Song

/-! ### Fr1: deeds, frames, the making of an evening -/
namespace Song
open PySem L2
def doDeed (st : EvS) : Deed → EvS
  | .wish ss => if st.rounds.length = 24 then st else st.wish ss
  | .sing => st.sing
  | .out n => if st.waiting = [] then st else st.out (st.waiting.getD (n % (st.waiting.length : Int)).toNat 0)
theorem EvS.sing_last (st : EvS) : st.sing.last = st.last := by
  unfold EvS.sing
  cases st.next <;> rfl
theorem doDeed_last (st : EvS) (d : Deed) : (doDeed st d).last.length = st.last.length := by
  cases d with
  | wish ss =>
    simp only [doDeed]
    split
    · rfl
    · exact setAll_len _ _ _
  | sing => rw [show doDeed st .sing = st.sing from rfl, EvS.sing_last]
  | out n =>
    simp only [doDeed]
    split <;> rfl
theorem doDeed_ok {st : EvS} {d : Deed} {m : Int} (h : EvOk st) (hd : DeedOk m d) : EvOk (doDeed st d) := by
  cases d with
  | wish ss =>
    simp only [doDeed]
    split
    · exact h
    · exact h.wish (by have := h.r24; omega) (areS_len hd).2.1
  | sing => exact h.sing
  | out n =>
    simp only [doDeed]
    split
    · exact h
    · exact h.out _
theorem sing_tale (st : EvS) : st.sing.tale.length = st.tale.length + 1 := by
  unfold EvS.sing
  cases st.next <;> simp
theorem doDeed_tale (st : EvS) (d : Deed) : (doDeed st d).tale.length ≤ st.tale.length + 1 := by
  cases d with
  | wish ss =>
    simp only [doDeed]
    split
    · omega
    · show (st.tale ++ [_]).length ≤ _
      simp
  | sing =>
    have := sing_tale st
    show st.sing.tale.length ≤ _
    omega
  | out n =>
    simp only [doDeed]
    split
    · omega
    · show (st.tale ++ [_]).length ≤ _
      simp
/-- two owners' cells stand apart -/
def Dj (p : Addr) (A : Ad) (d : Addr) (B : Ad) : Prop := ∀ a ∈ own d B, a ∉ own p A
theorem Dj.symm {p d : Addr} {A B : Ad} (h : Dj p A d B) : Dj d B p A := fun a h1 h2 => h a h2 h1
section
variable {K : PySem.W.Frag} {S S' X : List Addr} {H H' : Hp} {d : Addr} {B : Ad} {st : EvS}
theorem Ls.fra (ls : Ls S H d B st) (f : Fra X H H') (sub : ∀ a ∈ X, a ∈ S) (dom : ∀ a ∈ S, ∃ o, H' a = some o) (dj : ∀ a ∈ own d B, a ∉ X) : Ls S H' d B st := by
  obtain ⟨⟨cs, c, q⟩, sub2, _, few⟩ := ls
  obtain ⟨m1, m2, m3, m4, m5⟩ := memA d B
  exact ⟨⟨cs, ⟨f _ _ (dj _ m1) c.pp, f _ _ (dj _ m2) c.la, f _ _ (dj _ m3) c.ro, f _ _ (dj _ m4) c.wa, f _ _ (dj _ m5) c.ca, c.nd⟩, q.mono (Fra.off (f.mono sub))⟩, sub2, dom, few⟩
theorem Ev.fra (ev : Ev K S H d B st) (f : Fra X H H') (sub : ∀ a ∈ X, a ∈ S) (dom : ∀ a ∈ S, ∃ o, H' a = some o) (dj : ∀ a ∈ own d B, a ∉ X) : Ev K S H' d B st := by
  obtain ⟨⟨cs, c, q⟩, sub2, _, few⟩ := ev
  obtain ⟨m1, m2, m3, m4, m5⟩ := memA d B
  obtain ⟨dx, hp⟩ := c.pp
  exact ⟨⟨cs, ⟨⟨dx, f _ _ (dj _ m1) hp⟩, f _ _ (dj _ m2) c.la, f _ _ (dj _ m3) c.ro, f _ _ (dj _ m4) c.wa, f _ _ (dj _ m5) c.ca, c.nd⟩, q.mono (Fra.off (f.mono sub))⟩, sub2, dom, few⟩
theorem off_less (h : ∀ a ∈ S, a ∈ S') : Same (off S' H) (off S H) := fun b o e => by
  obtain ⟨n, e⟩ := off_some e
  rw [off_out (fun z => n (h _ z))]; exact e
theorem off_more (s : Same H H') (c : ∀ a ∈ S', a ∈ S ∨ H a = none) : Same (off S H) (off S' H') := fun b o e => by
  obtain ⟨n, e⟩ := off_some e
  rw [off_out (fun z => by
    rcases c b z with q | q
    · exact n q
    · rw [q] at e; cases e)]
  exact s _ _ e
theorem Ev.shrink (ev : Ev K S' H d B st) (h : ∀ a ∈ S, a ∈ S') (sub : ∀ a ∈ own d B, a ∈ S) : Ev K S H d B st := by
  obtain ⟨⟨cs, c, q⟩, _, dom, few⟩ := ev
  exact ⟨⟨cs, c, q.mono (off_less h)⟩, sub, fun a ha => dom a (h a ha), few⟩
theorem Ls.shrink (ev : Ls S' H d B st) (h : ∀ a ∈ S, a ∈ S') (sub : ∀ a ∈ own d B, a ∈ S) : Ls S H d B st := by
  obtain ⟨⟨cs, c, q⟩, _, dom, few⟩ := ev
  exact ⟨⟨cs, c, q.mono (off_less h)⟩, sub, fun a ha => dom a (h a ha), few⟩
theorem Ev.grow (ev : Ev K S H d B st) (s : Same H H') (h : ∀ a ∈ S, a ∈ S') (c : ∀ a ∈ S', a ∈ S ∨ H a = none) (dom : ∀ a ∈ S', ∃ o, H' a = some o) : Ev K S' H' d B st := by
  obtain ⟨⟨cs, c1, q⟩, sub, _, few⟩ := ev
  exact ⟨⟨cs, c1.mono s, q.mono (off_more s c)⟩, fun a ha => h a (sub a ha), dom, few⟩
theorem Ls.grow (ev : Ls S H d B st) (s : Same H H') (h : ∀ a ∈ S, a ∈ S') (c : ∀ a ∈ S', a ∈ S ∨ H a = none) (dom : ∀ a ∈ S', ∃ o, H' a = some o) : Ls S' H' d B st := by
  obtain ⟨⟨cs, c1, q⟩, sub, _, few⟩ := ev
  exact ⟨⟨cs, c1.mono s, q.mono (off_more s c)⟩, fun a ha => h a (sub a ha), dom, few⟩
end
theorem nS1 : decide (V.str "wish" = V.str "sing") = false := by decide +kernel
theorem nO1 : decide (V.str "wish" = V.str "out") = false := by decide +kernel
theorem nO2 : decide (V.str "sing" = V.str "out") = false := by decide +kernel
theorem nS2 : decide (V.str "out" = V.str "sing") = false := by decide +kernel
theorem Cells.domOwn {C : Addr} {H : Hp} {p : Addr} {A : Ad} {last : List Int} {going : Int} {rounds waiting : List Int} {cs : List V} (c : Cells C H p A last going rounds waiting cs) : ∀ a ∈ own p A, ∃ o, H a = some o := fun a q => by
  unfold own at q
  simp only [List.mem_cons, List.not_mem_nil, or_false] at q
  obtain ⟨dx, hp⟩ := c.pp
  rcases q with e | e | e | e | e
  · rw [e]; exact ⟨_, hp⟩
  · rw [e]; exact ⟨_, c.la⟩
  · rw [e]; exact ⟨_, c.ro⟩
  · rw [e]; exact ⟨_, c.wa⟩
  · rw [e]; exact ⟨_, c.ca⟩
theorem LC.domOwn {H : Hp} {p : Addr} {A : Ad} {last : List Int} {going : Int} {rounds waiting : List Int} {cs : List V} (c : LC H p A last going rounds waiting cs) : ∀ a ∈ own p A, ∃ o, H a = some o := fun a q => by
  unfold own at q
  simp only [List.mem_cons, List.not_mem_nil, or_false] at q
  rcases q with e | e | e | e | e
  · rw [e]; exact ⟨_, c.pp⟩
  · rw [e]; exact ⟨_, c.la⟩
  · rw [e]; exact ⟨_, c.ro⟩
  · rw [e]; exact ⟨_, c.wa⟩
  · rw [e]; exact ⟨_, c.ca⟩
/-- an evening just made -/
theorem Ev.made {K : PySem.W.Frag} {H : Hp} {p : Addr} {A : Ad} {n : Int} (c : Cells (He.ga K "Evening") H p A (List.replicate n.toNat 0) 1 [] [] []) : Ev K (own p A) H p A (evNew n) :=
  ⟨⟨[], c, trivial⟩, fun _ h => h, c.domOwn, by show 0 ≤ 900; decide⟩
/-- a part whose inner list is one's own: it may have grown -/
def MutP (H0 : Hp) (l2 : Addr) (n : Nat) (H : Hp) (v : V) : Prop :=
  (∃ (t b : Addr) (x y : V) (xs : List V), v = .ref t ∧ H t = some (.tup [.str "wish", .ref b, x, y]) ∧ H0 b = none ∧ b ≠ l2 ∧ H b = some (.lst xs) ∧ xs.length ≤ 3 + n) ∨
  (∃ (t : Addr) (s : Str) (x : V), v = .ref t ∧ H t = some (.tup [.str s, x]) ∧ decide (V.str s = V.str "wish") = false)
theorem MutP.mono {H0 : Hp} {l2 : Addr} {n : Nat} {H H' : Hp} {v : V} (s : Same H H') (h : MutP H0 l2 n H v) : MutP H0 l2 n H' v := by
  rcases h with ⟨t, b, x, y, xs, h1, h2, h3, h4, h5, h6⟩ | ⟨t, z, x, h1, h2, h3⟩
  · exact .inl ⟨t, b, x, y, xs, h1, s _ _ h2, h3, h4, s _ _ h5, h6⟩
  · exact .inr ⟨t, z, x, h1, s _ _ h2, h3⟩
theorem MutP.up {H0 : Hp} {l2 : Addr} {n : Nat} {H : Hp} {v : V} (h : MutP H0 l2 n H v) : MutP H0 l2 (n + 1) H v := by
  rcases h with ⟨t, b, x, y, xs, h1, h2, h3, h4, h5, h6⟩ | h
  · exact .inl ⟨t, b, x, y, xs, h1, h2, h3, h4, h5, by omega⟩
  · exact .inr h
theorem MutP.put {H0 : Hp} {l2 : Addr} {n : Nat} {H : Hp} {v : V} {c : Addr} {xs : List V} (hc : H c = some (.lst xs)) (hl : xs.length ≤ 3 + n) (y0 : V) (h : MutP H0 l2 n H v) : MutP H0 l2 (n + 1) (upd H c (.lst (xs ++ [y0]))) v := by
  rcases h with ⟨t, b, x, y, ys, h1, h2, h3, h4, h5, h6⟩ | ⟨t, z, x, h1, h2, h3⟩
  · have ntc : t ≠ c := ne_of h2 hc (by intro q; cases q)
    by_cases e : b = c
    · subst e
      exact .inl ⟨t, b, x, y, _, h1, by rw [upd_ne ntc]; exact h2, h3, h4, upd_same, by rw [List.length_append, List.length_singleton]; omega⟩
    · exact .inl ⟨t, b, x, y, ys, h1, by rw [upd_ne ntc]; exact h2, h3, h4, by rw [upd_ne e]; exact h5, by omega⟩
  · have ntc : t ≠ c := ne_of h2 hc (by intro q; cases q)
    exact .inr ⟨t, z, x, h1, by rw [upd_ne ntc]; exact h2, h3⟩
theorem PartN.mut {H0 H : Hp} {l2 : Addr} {v : V} {p : Part} (h : PartN H0 (off [l2] H) v p) (h3 : ∀ ss n r, p = .wish ss n r → ss.length ≤ 3) : MutP H0 l2 0 H v := by
  obtain ⟨pa, pn⟩ := h
  cases v with
  | ref t =>
    cases p with
    | wish ss n r =>
      obtain ⟨t', b, e, h1, h2, h4⟩ := pn ss n r rfl
      cases e
      obtain ⟨nb, hb⟩ := off_some h2
      exact .inl ⟨t, b, _, _, _, rfl, (off_some h1).2, h4, by simpa using nb, hb, by rw [List.length_map]; exact h3 ss n r rfl⟩
    | sing o => exact .inr ⟨t, _, _, rfl, (off_some pa).2, nW1⟩
    | out n => exact .inr ⟨t, _, _, rfl, (off_some pa).2, nW2⟩
  | _ => exact pa.elim
theorem eqv_tale (ps : List Part) : PyData.eqv (.list (ps.map Part.data)) (.list (ps.map Part.data)) = true := eqv_self (shp_tale ps)
section
variable {K : PySem.W.Frag}
theorem Ev.pp {S : List Addr} {H : Hp} {p : Addr} {A : Ad} {st : EvS} (e : Ev K S H p A st) : ∃ dx, H p = some (.ins (He.ga K "Evening") dx (evF A st.going)) := by
  obtain ⟨cs, c, _⟩ := e.cell
  exact c.pp
theorem Ls.tale {S : List Addr} {H : Hp} {p : Addr} {A : Ad} {st : EvS} (e : Ls S H p A st) : Dp K H (.ref A.ca) (.list (st.tale.map Part.data)) := by
  obtain ⟨cs, c, q⟩ := e.cell
  exact .lst (SqL.of c.ca) (q.mono (off_le S H)).dp
theorem told_dp {H0 H : Hp} {l : Addr} {cs : List V} {ps : List Part} (hl : H l = some (.lst cs)) (he : cs.length = ps.length) (h : ∀ (i : Nat) v, cs[i]? = some v → ∃ q, ps[i]? = some q ∧ PartN H0 (off [l] H) v q) :
    Dp K H (.ref l) (.list (ps.map Part.data)) :=
  .lst (SqL.of hl) (Parts.mono (off_le [l] H) (Parts.of he fun i v e => by
    obtain ⟨q, h1, h2⟩ := h i v e
    exact ⟨q, h1, h2.1⟩)).dp
end
end Song

/-! ### Pl3: a tale gone over, plainly -/
namespace Song
open PySem L2
/-- a part that can come now, done -/
def stepPart (st : EvS) : Part → Option EvS
  | .wish ss n r => if areSingers ss st.last.length = true ∧ st.rounds.length < 24 ∧ n = (st.rounds.length : Int) ∧ r = st.num ss then some (st.wish ss) else none
  | .sing o => if st.next = o then some st.sing else none
  | .out n => if n ∈ st.waiting then some (st.out n) else none
def firstFrom (st : EvS) (i : Int) : List Part → Int
  | [] => -1
  | p :: r => match stepPart st p with
    | none => i
    | some st' => firstFrom st' (i + 1) r
def firstWrong (many : Int) (tale : List Part) : Int := firstFrom (evNew many) 0 tale
theorem firstFrom_none {st : EvS} {i : Int} {p : Part} {r : List Part} (h : stepPart st p = none) : firstFrom st i (p :: r) = i := by
  show (match stepPart st p with | none => i | some st' => firstFrom st' (i + 1) r) = i
  rw [h]
theorem firstFrom_some {st st' : EvS} {i : Int} {p : Part} {r : List Part} (h : stepPart st p = some st') : firstFrom st i (p :: r) = firstFrom st' (i + 1) r := by
  show (match stepPart st p with | none => i | some st' => firstFrom st' (i + 1) r) = _
  rw [h]
theorem stepPart_ok {st st' : EvS} {p : Part} (h : stepPart st p = some st') (ok : EvOk st) : EvOk st' ∧ st'.last.length = st.last.length ∧ st'.tale.length = st.tale.length + 1 := by
  cases p with
  | wish ss n r =>
    simp only [stepPart] at h
    split at h
    · rename_i c
      cases h
      exact ⟨ok.wish c.2.1 (areS_len c.1).2.1, setAll_len _ _ _, by show (st.tale ++ [_]).length = _; simp⟩
    · cases h
  | sing o =>
    simp only [stepPart] at h
    split at h
    · cases h
      exact ⟨ok.sing, by rw [EvS.sing_last], sing_tale st⟩
    · cases h
  | out n =>
    simp only [stepPart] at h
    split at h
    · cases h
      exact ⟨ok.out n, rfl, by show (st.tale ++ [_]).length = _; simp⟩
    · cases h
theorem firstFrom_lo (st : EvS) : ∀ (r : List Part) (st : EvS) (i : Int), 0 ≤ i → firstFrom st i r = -1 ∨ (i ≤ firstFrom st i r ∧ firstFrom st i r < i + r.length)
  | [], _, _, _ => .inl rfl
  | p :: r, st, i, hi => by
    cases e : stepPart st p with
    | none => rw [firstFrom_none e]; exact .inr ⟨Int.le_refl _, by rw [List.length_cons]; omega⟩
    | some st' =>
      rw [firstFrom_some e]
      rcases firstFrom_lo st r st' (i + 1) (by omega) with h | h
      · exact .inl h
      · exact .inr ⟨by omega, by rw [List.length_cons]; omega⟩
theorem firstWrong_ge (many : Int) (tale : List Part) : firstWrong many tale = -1 ∨ (0 ≤ firstWrong many tale ∧ firstWrong many tale < tale.length) := by
  rcases firstFrom_lo (evNew many) tale (evNew many) 0 (by decide) with h | h
  · exact .inl h
  · refine .inr ⟨h.1, ?_⟩
    have := h.2
    unfold firstWrong
    omega
end Song

/-! ### Dc: dicts of whole numbers, plainly -/
namespace Song
open PySem L2
def getC (cn : List (Int × Int)) (k : Int) : Option Int := (cn.find? fun p => decide (p.1 = k)).map (·.2)
def putC (cn : List (Int × Int)) (k v : Int) : List (Int × Int) := if (cn.any fun p => decide (p.1 = k)) = true then cn.map (fun p => if p.1 = k then (p.1, v) else p) else cn ++ [(k, v)]
def toK (cn : List (Int × Int)) : List (Key × V) := cn.map fun p => (Sum.inl p.1, V.int p.2)
theorem inl_iff {a b : Int} : ((Sum.inl a : Key) = Sum.inl b) ↔ a = b := ⟨fun e => by injection e, fun e => by rw [e]⟩
theorem valV_toK (k : Int) : ∀ cn : List (Int × Int), valV (toK cn) (Sum.inl k) = (getC cn k).map V.int
  | [] => rfl
  | p :: r => by
    by_cases e : p.1 = k
    · have h1 : valV (toK (p :: r)) (Sum.inl k) = some (.int p.2) := valV_pos (p := (Sum.inl p.1, V.int p.2)) (inl_iff.mpr e)
      rw [h1]
      unfold getC
      rw [List.find?_cons_of_pos (by simpa using e)]; rfl
    · have h1 : valV (toK (p :: r)) (Sum.inl k) = valV (toK r) (Sum.inl k) := valV_neg (p := (Sum.inl p.1, V.int p.2)) (fun z => e (inl_iff.mp z))
      rw [h1, valV_toK k r]
      unfold getC
      rw [List.find?_cons_of_neg (by simpa using e)]
theorem any_toK (k : Int) (cn : List (Int × Int)) : ((toK cn).any fun kv => decide (kv.1 = Sum.inl k)) = cn.any fun p => decide (p.1 = k) := by
  unfold toK
  rw [List.any_map]
  congr 1
  funext p
  exact decide_eq_decide.mpr inl_iff
theorem putK_toK (k v : Int) (cn : List (Int × Int)) : putK (toK cn) (Sum.inl k) (.int v) = toK (putC cn k v) := by
  unfold putK putC
  rw [any_toK]
  split
  · unfold toK
    rw [List.map_map, List.map_map]
    refine List.map_congr_left fun p _ => ?_
    show (if (Sum.inl p.1 : Key) = Sum.inl k then _ else _) = ((fun p : Int × Int => ((Sum.inl p.1 : Key), V.int p.2)) (if p.1 = k then (p.1, v) else p))
    by_cases e : p.1 = k
    · rw [if_pos (inl_iff.mpr e), if_pos e]
    · rw [if_neg (fun z => e (inl_iff.mp z)), if_neg e]
  · unfold toK
    rw [List.map_append]; rfl
theorem toK_len (cn : List (Int × Int)) : (toK cn).length = cn.length := List.length_map _
theorem putC_len (cn : List (Int × Int)) (k v : Int) : (putC cn k v).length ≤ cn.length + 1 := by
  unfold putC
  split
  · rw [List.length_map]; omega
  · rw [List.length_append, List.length_singleton]; omega
theorem getC_putC (cn : List (Int × Int)) (k v s : Int) : getC (putC cn k v) s = if s = k then some v else getC cn s := by
  unfold putC
  by_cases h : (cn.any fun p => decide (p.1 = k)) = true
  · rw [if_pos h]
    induction cn with
    | nil => simp at h
    | cons p r ih =>
      unfold getC at ih ⊢
      rw [List.map_cons]
      by_cases e : p.1 = k
      · rw [if_pos e]
        by_cases e2 : s = k
        · rw [if_pos e2, List.find?_cons_of_pos (by simp [e, e2])]; rfl
        · rw [if_neg e2, List.find?_cons_of_neg (by simp [e]; exact fun z => e2 z.symm), List.find?_cons_of_neg (by simp [e]; exact fun z => e2 z.symm)]
          by_cases h2 : (r.any fun p => decide (p.1 = k)) = true
          · rw [ih h2, if_neg e2]
          · have e3 : r.map (fun p => if p.1 = k then (p.1, v) else p) = r := by
              refine (List.map_congr_left fun q hq => ?_).trans (List.map_id _)
              rw [if_neg (fun z => h2 (List.any_eq_true.mpr ⟨q, hq, decide_eq_true z⟩))]; rfl
            rw [e3]
      · rw [if_neg e]
        have h2 : (r.any fun p => decide (p.1 = k)) = true := by
          rw [List.any_cons, decide_eq_false e] at h; exact h
        by_cases e2 : p.1 = s
        · rw [List.find?_cons_of_pos (by simpa using e2), List.find?_cons_of_pos (by simpa using e2), if_neg (fun z => e (e2.trans z))]
        · rw [List.find?_cons_of_neg (by simpa using e2), List.find?_cons_of_neg (by simpa using e2)]
          exact ih h2
  · rw [if_neg h]
    unfold getC
    rw [List.find?_append]
    by_cases e2 : s = k
    · rw [if_pos e2]
      have n : cn.find? (fun p => decide (p.1 = s)) = none := List.find?_eq_none.mpr fun p hp z => h (List.any_eq_true.mpr ⟨p, hp, by rw [← e2]; exact z⟩)
      rw [n]
      simp [e2]
    · rw [if_neg e2]
      have n : [(k, v)].find? (fun p : Int × Int => decide (p.1 = s)) = none := by
        rw [List.find?_cons_of_neg (by simpa using fun z => e2 z.symm)]; rfl
      rw [n, Option.or_none]
theorem getC_get {H : Hp} {c : Addr} {cn : List (Int × Int)} {x v : Int} (h : H c = some (.dK (toK cn))) (g : getC cn x = some v) : DGet H c (.int x) (some (.int v)) := by
  have z := DGet.k (k := Sum.inl x) h
  rw [valV_toK, g] at z
  exact z
end Song

/-! ### Cut: a named state behind a statement, a named answer behind an expression -/
namespace Song
open PySem L2
def sCut (t : TS) : TS := fun D σ H => ∃ G : L2.St → Hp → Prop, t { D with nx := G } σ H ∧ ∀ σ' H', G σ' H' → D.nx σ' H'
theorem ps_cut {X : Cx} {st : Stmt} {t : TS} (h : PS X st t) : PS X st (sCut t) := by
  refine ⟨fun pins s σ H D I hw => ?_⟩
  obtain ⟨G, h1, h2⟩ := hw
  refine thn (h.run pins s σ H _ I h1) fun f s1 q => ?_
  cases f with
  | next => obtain ⟨σ', H', I2, z⟩ := q; exact ⟨σ', H', I2, h2 _ _ z⟩
  | brk => exact q
  | cont => exact q
  | ret v => exact q
def eCut (t : TE) : TE := fun σ H Q => ∃ G : V → Hp → Prop, t σ H G ∧ ∀ v H', G v H' → Q v H'
theorem pe_cut {X : Cx} {e : Expr} {t : TE} (h : PE X e t) : PE X e (eCut t) := by
  refine ⟨fun pins s σ H Q I hw => ?_⟩
  obtain ⟨G, h1, h2⟩ := hw
  refine thn (h.run pins s σ H _ I h1) fun v s1 ⟨x, H1, I1, r, q⟩ => ?_
  exact ⟨x, H1, I1, r, h2 _ _ q⟩
/-- one of two readings of an expression -/
def tAlt (t1 t2 : TE) : TE := fun σ H Q => t1 σ H Q ∨ t2 σ H Q
theorem pe_alt {X : Cx} {e : Expr} {t1 t2 : TE} (a : PE X e t1) (b : PE X e t2) : PE X e (tAlt t1 t2) :=
  ⟨fun pins s σ H Q I h => h.elim (fun h => a.run pins s σ H Q I h) (fun h => b.run pins s σ H Q I h)⟩
/-- an own instance's class, for isinstance -/
theorem ty_ins {K : PySem.W.Frag} {H : Hp} {a C dx : Addr} {fs : List (Str × V)} (h : H a = some (.ins C dx fs)) (cl : Cls K C) (c : IsC K C) : TyX K H (.ref a) (.ref C) := .base (.ins h cl c.cls c.spe c.tak c.mro)
/-- lists of numbers in the heap, none of them long -/
def IntL (K : PySem.W.Frag) (H : Hp) (vs : List V) : Prop := ∀ v ∈ vs, ∃ (b : Addr) (ns : List Int), v = .ref b ∧ SqL K H b (ns.map V.int) ∧ ns.length ≤ 100
theorem IntL.mono {K : PySem.W.Frag} {H H' : Hp} {vs : List V} (s : Same H H') (h : IntL K H vs) : IntL K H' vs := fun v hv => by
  obtain ⟨b, ns, e, q, l⟩ := h v hv
  exact ⟨b, ns, e, s.seq q, l⟩
theorem IntL.nil {K : PySem.W.Frag} {H : Hp} : IntL K H [] := fun v hv => by cases hv
theorem IntL.cons {K : PySem.W.Frag} {H : Hp} {b : Addr} {ns : List Int} {vs : List V} (h : SqL K H b (ns.map V.int)) (l : ns.length ≤ 100) (t : IntL K H vs) : IntL K H (.ref b :: vs) := fun v hv => by
  rcases List.mem_cons.mp hv with e | e
  · exact ⟨b, ns, e, h, l⟩
  · exact t v e
theorem IntL.app {K : PySem.W.Frag} {H : Hp} {vs ws : List V} (h : IntL K H vs) (g : IntL K H ws) : IntL K H (vs ++ ws) := fun v hv => by
  rcases List.mem_append.mp hv with e | e
  · exact h v e
  · exact g v e
theorem rep_intsN (n : Nat) (ns : List Int) : (List.replicate n (ns.map V.int)).flatten = ((List.replicate n ns).flatten).map V.int := by
  rw [List.map_flatten, List.map_replicate]
end Song

/-! ### Ev7: who can still come ahead; within, worst -/
namespace Song
open PySem L2
/-- singers of the lists that can still come ahead of a round -/
def moreA (last : List Int) (going most : Int) : Nat → List Int
  | 0 => []
  | n + 1 => moreA last going most n ++ List.replicate (max 0 (most - floorOf last going (n : Int))).toNat (n : Int)
def EvS.ahead (st : EvS) (song : Int) : List Int := (moreA st.last st.going (st.rounds.getD song.toNat 0) st.last.length).take (24 - st.rounds.length)
def EvS.within (st : EvS) (song : Int) : Int := (st.queue.idxOf song : Int) + 1 + (st.ahead song).length
/-- rounds are no greater than there are songs -/
structure EvB (st : EvS) : Prop where
  la : ∀ x ∈ st.last, 0 ≤ x ∧ x ≤ st.rounds.length
  go : 1 ≤ st.going ∧ st.going ≤ max 1 (st.rounds.length : Int)
  ro : ∀ r ∈ st.rounds, 1 ≤ r ∧ r ≤ st.rounds.length
theorem EvB.new (many : Int) : EvB (evNew many) := ⟨fun x hx => by
  have : x = 0 := (List.mem_replicate.mp hx).2
  rw [this]; show (0 : Int) ≤ 0 ∧ (0 : Int) ≤ ((0 : Nat) : Int); omega, ⟨Int.le_refl _, by show (1 : Int) ≤ max 1 _; omega⟩, fun r hr => by cases hr⟩
theorem mem_setAll {last : List Int} {n x : Int} : ∀ {ss : List Int} {last : List Int}, x ∈ setAll last ss n → x ∈ last ∨ x = n
  | [], _, h => .inl h
  | s :: r, last, h => by
    have h : x ∈ setAll (last.set s.toNat n) r n := h
    rcases mem_setAll (last := last) h with z | z
    · rcases List.mem_or_eq_of_mem_set z with y | y
      · exact .inl y
      · exact .inr y
    · exact .inr z
theorem EvB.num {st : EvS} (h : EvB st) {ss : List Int} (hi : InB st.last.length ss) (hn : ss ≠ []) : 1 ≤ st.num ss ∧ st.num ss ≤ (st.rounds.length : Int) + 1 := by
  unfold EvS.num roundFor
  have hm := foldl_max_mem
  have hne : ss.map (floorOf st.last st.going) ≠ [] := fun z => hn (List.map_eq_nil_iff.mp z)
  obtain ⟨s, hs, e⟩ : ∃ s ∈ ss, maxL (ss.map (floorOf st.last st.going)) = floorOf st.last st.going s := by
    cases hc : ss.map (floorOf st.last st.going) with
    | nil => exact absurd hc hne
    | cons a r =>
      have := foldl_max_mem r a
      rw [← hc] at this
      obtain ⟨s, hs, e⟩ := List.mem_map.mp this
      exact ⟨s, hs, e.symm⟩
  rw [e]
  unfold floorOf
  obtain ⟨s0, s1⟩ := hi s hs
  have hl : st.last.getD s.toNat 0 ∈ st.last := by
    rw [List.getD_eq_getElem?_getD, List.getElem?_eq_getElem (by omega)]
    exact List.getElem_mem _
  have h1 := h.la _ hl
  have h2 := h.go
  omega
theorem EvB.wish {st : EvS} (h : EvB st) {ss : List Int} (hi : InB st.last.length ss) (hn : ss ≠ []) : EvB (st.wish ss) := by
  have hnum := h.num hi hn
  have hl : ((st.wish ss).rounds.length : Int) = (st.rounds.length : Int) + 1 := by
    show (((st.rounds ++ [_]).length : Nat) : Int) = _
    rw [List.length_append, List.length_singleton]; omega
  refine ⟨fun x hx => ?_, ⟨h.go.1, ?_⟩, fun r hr => ?_⟩
  · rw [hl]
    rcases mem_setAll (last := st.last) hx with z | z
    · have := h.la x z; omega
    · rw [z]; omega
  · have := h.go.2
    show st.going ≤ _
    omega
  · rw [hl]
    rcases List.mem_append.mp hr with z | z
    · have := h.ro r z; omega
    · rw [List.mem_singleton.mp z]; omega
theorem EvB.sing {st : EvS} (h : EvB st) (ok : EvOk st) : EvB st.sing := by
  unfold EvS.sing
  cases e : st.next with
  | none => exact ⟨h.la, h.go, h.ro⟩
  | some s =>
    have hs := ok.inb s (EvS.next_mem e)
    have hm : st.rounds.getD s.toNat 0 ∈ st.rounds := by
      rw [List.getD_eq_getElem?_getD, List.getElem?_eq_getElem (by omega)]
      exact List.getElem_mem _
    have := h.ro _ hm
    exact ⟨h.la, ⟨this.1, by show st.rounds.getD _ _ ≤ max 1 (st.rounds.length : Int); omega⟩, h.ro⟩
theorem EvB.out {st : EvS} (h : EvB st) (n : Int) : EvB (st.out n) := ⟨h.la, h.go, h.ro⟩
theorem moreA_len {last : List Int} {going most : Int} (hg : 1 ≤ going) (hm : most ≤ 24) : ∀ n, (moreA last going most n).length ≤ 24 * n
  | 0 => Nat.le_refl _
  | n + 1 => by
    have ih := moreA_len (last := last) hg hm n
    show (moreA last going most n ++ _).length ≤ _
    rw [List.length_append, List.length_replicate]
    have : floorOf last going (n : Int) ≥ going := by unfold floorOf; omega
    omega
theorem moreA_in {last : List Int} {going most : Int} : ∀ {n : Nat} {x : Int}, x ∈ moreA last going most n → 0 ≤ x ∧ x < n
  | 0, _, h => by cases h
  | n + 1, x, h => by
    rcases List.mem_append.mp h with z | z
    · have := moreA_in z; omega
    · rw [(List.mem_replicate.mp z).2]; omega
theorem rowsIn {K : PySem.W.Frag} {H : Hp} {b : Addr} {x : Int} {n : Nat} (h : H b = some (.lst [V.int x])) : ∀ v ∈ List.replicate n (V.ref b), ∃ c, v = .ref c ∧ SqL K H c ([x].map V.int) := fun v hv => ⟨b, (List.mem_replicate.mp hv).2, SqL.of h⟩
/-- lists of one singer each, in the heap -/
def Ones (K : PySem.W.Frag) (H : Hp) (vs : List V) (xs : List Int) : Prop := vs.length = xs.length ∧ ∀ (i : Nat) v, vs[i]? = some v → ∃ c x, xs[i]? = some x ∧ v = .ref c ∧ SqL K H c ([x].map V.int)
theorem Ones.mono {K : PySem.W.Frag} {H H' : Hp} {vs : List V} {xs : List Int} (s : Same H H') (h : Ones K H vs xs) : Ones K H' vs xs := ⟨h.1, fun i v e => by
  obtain ⟨c, x, h1, h2, h3⟩ := h.2 i v e
  exact ⟨c, x, h1, h2, s.seq h3⟩⟩
theorem Ones.app {K : PySem.W.Frag} {H : Hp} {vs ws : List V} {ps qs : List Int} (h : Ones K H vs ps) (g : Ones K H ws qs) : Ones K H (vs ++ ws) (ps ++ qs) := by
  refine ⟨by rw [List.length_append, List.length_append, h.1, g.1], fun i v e => ?_⟩
  by_cases c : i < vs.length
  · rw [List.getElem?_append_left c] at e
    rw [List.getElem?_append_left (by rw [← h.1]; exact c)]
    exact h.2 i v e
  · rw [List.getElem?_append_right (by omega)] at e
    rw [List.getElem?_append_right (by rw [← h.1]; omega), ← h.1]
    exact g.2 _ v e
theorem Ones.rep {K : PySem.W.Frag} {H : Hp} {b : Addr} {x : Int} (n : Nat) (h : H b = some (.lst [V.int x])) : Ones K H (List.replicate n (V.ref b)) (List.replicate n x) := by
  refine ⟨by rw [List.length_replicate, List.length_replicate], fun i v e => ?_⟩
  have hi : i < n := by
    have := (List.getElem?_eq_some_iff.mp e).1
    rwa [List.length_replicate] at this
  rw [List.getElem?_replicate, if_pos hi] at e
  exact ⟨b, x, by rw [List.getElem?_replicate, if_pos hi], (Option.some.inj e).symm, SqL.of h⟩
theorem Ones.take {K : PySem.W.Frag} {H : Hp} {vs : List V} {ps : List Int} (n : Nat) (h : Ones K H vs ps) : Ones K H (vs.take n) (ps.take n) := by
  refine ⟨by rw [List.length_take, List.length_take, h.1], fun i v e => ?_⟩
  have hi : i < n := by
    have := (List.getElem?_eq_some_iff.mp e).1
    rw [List.length_take] at this; omega
  rw [List.getElem?_take_of_lt hi] at e
  rw [List.getElem?_take_of_lt hi]
  exact h.2 i v e
section
variable {P : Program} {w : World} {K : PySem.W.Frag} {mg : Str → Option Value} {base : Heap}
theorem sc_more_ahead : FnScope ["last", "going", "most", "wished", "found", "singer"] ["last", "going", "most", "wished"] (defScope s_more_ahead) := ⟨rfl, rfl, rfl, by decide +kernel, rfl, by decide +kernel, by decide +kernel⟩
def sp_more_ahead (K : PySem.W.Frag) : Sp := fun vs H Q _ => ∃ (a : Addr) (last : List Int) (going most : Int) (n : Nat), vs = [.ref a, .int going, .int most, .int n] ∧ SqL K H a (last.map V.int) ∧ last.length ≤ 6 ∧ 1 ≤ going ∧ most ≤ 24 ∧ n ≤ 24 ∧
  ∀ l H' cs, H l = none → Same H H' → H' l = some (.lst cs) → Ones K H' cs ((moreA last going most last.length).take (24 - n)) → Q (.ref l) H'
theorem max_iteZ (j : Int) : (if j > 0 then j else 0) = max 0 j := by split <;> omega
theorem fn_more_ahead (T : Tx K mg) : Fn P w K mg base "more_ahead" 2 (sp_more_ahead K) := by
  obtain ⟨fd, F⟩ := T.d_more_ahead
  refine ⟨_, fd, _, F.ok (CX := CX0) sc_more_ahead (fun vs H Q E h => ?_) (fun cdv A outer s H vs Q E hr h => ?_), T.g_more_ahead, F.kp, F.bindsN fun _ _ _ _ _ _ us hl => match us, hl with | [_, _, _, _], _ => rfl⟩
  · obtain ⟨a, last, going, most, n, rfl, _⟩ := h; rfl
  · obtain ⟨a, last, going, most, n, rfl, ha, l6, gg1, m24, n24, q⟩ := h
    refine ⟨_, PSs.nox (pss_cons (ps_set (i := 4) sc_more_ahead.nd rfl (by first | exact Or.inl rfl | exact Or.inr rfl) (pe_lst pa_nil))
      (pss_cons (ps_for PassesOwn.never rfl (pi_range1 (by rfl) T.range (pa_cons (pe_callB (show CallR _ _ (rLenQ K) from call_len_seq) (by rfl) T.len (by decide +kernel) (pa_cons (pv 0) pa_nil)) pa_nil)) (pg_name (i := 5) sc_more_ahead.nd rfl (by first | exact Or.inl rfl | exact Or.inr rfl))
      (pss_one (ps_expr (show PE _ _ (tBM K _ _ _ _) from pe_bm PySem.F.plainAttrs_list PySem.F.slot_list_extend PySem.F.type_list_extend mt_extend (pv 4) (pa_cons (pe_op op_rep (pe_lst (pa_cons (pe_lst (pa_cons (pv 5) pa_nil)) pa_nil)) (pe_callB (call_max2 (by rfl)) (by rfl) T.max (by decide +kernel) (pa_cons pe_int (pa_cons (pe_op op_sub (pv 2) (pe_fn (fn_floor_of T) (hr.mono (by first | decide | omega)) (by rfl) (pa_cons (pv 0) (pa_cons (pv 1) (pa_cons (pv 5) pa_nil))))) pa_nil)))) pa_nil)))))
      (pss_one (ps_ret (pe_slice (show SlR _ (rSlL K) from sl_list) (pv 4) po_none (po_some (pe_op op_sub (pe_gi T.c_MOST_SONGS (by rfl)) (pv 3)))))))), ?_⟩
    refine ⟨Nat.zero_le _, fun l nl => ?_⟩
    refine to_new nl fun H1 s1 hl => ?_
    refine ⟨_, rfl, a, _, rfl, .inl (s1.seq ha), _, rfl, by rw [List.length_map]; omega, by rw [List.length_map]; omega, ?_⟩
    rw [List.length_map, show ((last.length : Int)).toNat = last.length by omega]
    refine for_range (lo := 0) (fun i σ H' => ∃ (x5 : Option V) (cs : List V), σ = [some (.ref a), some (.int going), some (.int most), some (.int n), some (.ref l), x5] ∧ Same H H' ∧ H' l = some (.lst cs) ∧ Ones K (off [l] H') cs (moreA last going most i)) ?_ ?_ ?_
    · exact ⟨_, [], rfl, s1, hl, rfl, fun i v e => by simp at e⟩
    · rintro i σ G hi ⟨x5, cs, rfl, g, hlG, hO⟩
      refine ⟨_, rfl, .inl ⟨rfl, _, SqL.of hlG⟩, _, rfl, by show 1 ≤ sizeLine; decide, fun b nb => ?_⟩
      refine to_new nb fun G1 g1 hb => ?_
      refine ⟨by show 1 ≤ sizeLine; decide, fun c nc => ?_⟩
      refine to_new nc fun G2 g2 hc => ?_
      have g02 := g.trans (g1.trans g2)
      refine ⟨_, rfl, _, rfl, _, rfl, _, rfl, a, last, going, _, rfl, g02.seq ha, by omega, by omega, ?_⟩
      rw [show (0 + (i : Int)) = (i : Int) by omega]
      refine ⟨_, _, rfl, rfl, _, _, rfl, ?_⟩
      rw [max_iteZ]
      have fl : floorOf last going (i : Int) ≥ going := by unfold floorOf; omega
      refine ⟨c, _, _, rfl, rfl, hc, by omega, by omega, ?_, fun d nd => ?_⟩
      · show 1 * _ ≤ sizeLine
        have := lt_line (n := (max 0 (most - floorOf last going (i : Int))).toNat) (by omega)
        omega
      have erep : (List.replicate (max 0 (most - floorOf last going (i : Int))).toNat [V.ref b]).flatten = List.replicate (max 0 (most - floorOf last going (i : Int))).toNat (V.ref b) := by
        generalize (max 0 (most - floorOf last going (i : Int))).toNat = k
        induction k with
        | zero => rfl
        | succ k ih => rw [List.replicate_succ, List.flatten_cons, ih]; rfl
      rw [erep]
      refine to_new nd fun G3 g3 hd => ?_
      have ml := moreA_len (last := last) gg1 m24 i
      have hlG3 := (g1.trans (g2.trans g3)) _ _ hlG
      refine ⟨l, d, _, _, rfl, rfl, hlG3, hd, ?_, ?_⟩
      · rw [hO.1, List.length_replicate]
        have := lt_line (n := (moreA last going most i).length + (max 0 (most - floorOf last going (i : Int))).toNat) (by omega)
        omega
      refine to_put fun G4 f4 h4 => ?_
      have nbl : b ≠ l := (ne_of_none hlG nb).symm
      have hb3 : (off [l] G3) b = some (.lst [V.int (0 + (i : Int))]) := by
        rw [off_out (by simpa using nbl)]
        exact (g2.trans g3) _ _ hb
      rw [show (0 + (i : Int)) = (i : Int) by omega] at hb3
      refine ⟨_, _, rfl, f4.back (g02.trans g3) (fun x hx => by rw [List.mem_singleton.mp hx]; exact nl), h4, ?_⟩
      exact ((hO.mono (off_mono (g1.trans (g2.trans g3)))).app (Ones.rep _ hb3)).mono (Fra.off f4)
    · rintro σ G ⟨x5, cs, rfl, g, hlG, hO⟩
      have e : (24 : Int) - (n : Int) = ((24 - n : Nat) : Int) := by omega
      refine ⟨_, rfl, _, rfl, _, _, rfl, rfl, ((24 - n : Nat) : Int), congrArg V.int e, l, _, rfl, SqL.of hlG, fun p np => ?_⟩
      rw [cut_head]
      refine to_new np fun G1 g1 hp => ?_
      exact q p G1 _ (g.free np) (g.trans g1) hp (((hO.mono (off_le _ _)).mono g1).take _)
theorem sc_Evening_ahead_of : FnScope ["self", "song"] ["self", "song"] (defScope s_Evening_ahead_of) := ⟨rfl, rfl, rfl, by decide +kernel, rfl, by decide +kernel, by decide +kernel⟩
def sp_ahead_of (K : PySem.W.Frag) : Sp := fun vs H Q _ => ∃ (S : List Addr) (p : Addr) (A : Ad) (st : EvS) (n : Int), vs = [.ref p, .int n] ∧ Ev K S H p A st ∧ EvOk st ∧ EvB st ∧ n ∈ st.waiting ∧
  ∀ l H' cs, H l = none → Same H H' → H' l = some (.lst cs) → Ones K H' cs (st.ahead n) → Q (.ref l) H'
theorem EvB.round {st : EvS} (h : EvB st) (ok : EvOk st) {n : Int} (hn : n ∈ st.waiting) : 1 ≤ st.rounds.getD n.toNat 0 ∧ st.rounds.getD n.toNat 0 ≤ 24 := by
  obtain ⟨n0, n1⟩ := ok.inb n hn
  have hm : st.rounds.getD n.toNat 0 ∈ st.rounds := by
    rw [List.getD_eq_getElem?_getD, List.getElem?_eq_getElem (by omega)]
    exact List.getElem_mem _
  have := h.ro _ hm
  have := ok.r24
  omega
theorem me_Evening_ahead_of (T : Tx K mg) : Me P w K mg base (He.ga K "Evening") "ahead_of" 3 (sp_ahead_of K) := by
  obtain ⟨fd, F⟩ := T.d_Evening_ahead_of
  refine ⟨_, fd, _, F.ok (CX := CX0) sc_Evening_ahead_of (fun vs H Q E h => ?_) (fun cdv A outer s H vs Q E hr h => ?_), T.cls_Evening, T.me_Evening_ahead_of, F.bindsN fun _ _ _ _ _ _ us hl => match us, hl with | [_, _], _ => rfl⟩
  · obtain ⟨S, p, A, st, n, rfl, _⟩ := h; rfl
  · obtain ⟨S, p, A', st, n, rfl, ev, ok, eb, hn, q⟩ := h
    obtain ⟨⟨cs, c, hq⟩, sub, dom, few⟩ := ev
    obtain ⟨dx, hp⟩ := c.pp
    refine ⟨_, PSs.nox (pss_one (ps_ret (pe_fn (fn_more_ahead T) (hr.mono (by first | decide | omega)) (by rfl) (pa_cons (show PE _ _ (tFld K _ _) from pe_fld (pv 0) rfl) (pa_cons (show PE _ _ (tFld K _ _) from pe_fld (pv 0) rfl) (pa_cons (pe_ix (show IxR _ (rIxL K) from ix_list) (show PE _ _ (tFld K _ _) from pe_fld (pv 0) rfl) (pv 1) (fun _ _ => rfl)) (pa_cons (pe_callB (show CallR _ _ (rLenQ K) from call_len_seq) (by rfl) T.len (by decide +kernel) (pa_cons (show PE _ _ (tFld K _ _) from pe_fld (pv 0) rfl) pa_nil)) pa_nil))))))), ?_⟩
    obtain ⟨n0, n1⟩ := ok.inb n hn
    have hr := eb.round ok hn
    have r24 := ok.r24
    refine ⟨_, rfl, p, _, dx, _, _, rfl, hp, T.cls_Evening, T.na_Evening_last, evF_last _ _, _, rfl, p, _, dx, _, _, rfl, hp, T.cls_Evening, T.na_Evening_going, evF_going _ _,
      _, rfl, p, _, dx, _, _, rfl, hp, T.cls_Evening, T.na_Evening_rounds, evF_rounds _ _, _, rfl, A'.ro, _, _, _, rfl, rfl, SqL.of c.ro, at_int n0 n1,
      _, rfl, p, _, dx, _, _, rfl, hp, T.cls_Evening, T.na_Evening_rounds, evF_rounds _ _, A'.ro, _, rfl, .inl (SqL.of c.ro), A'.la, st.last, st.going, st.rounds.getD n.toNat 0, st.rounds.length, ?_, SqL.of c.la, ok.six, eb.go.1, hr.2, r24, fun l H1 cs1 nl s1 hl hO => q l H1 cs1 nl s1 hl hO⟩
    rw [List.length_map]; rfl
theorem sc_Evening_within : FnScope ["self", "song"] ["self", "song"] (defScope s_Evening_within) := ⟨rfl, rfl, rfl, by decide +kernel, rfl, by decide +kernel, by decide +kernel⟩
def sp_within (K : PySem.W.Frag) : Sp := fun vs H Q _ => ∃ (S : List Addr) (p : Addr) (A : Ad) (st : EvS) (n : Int), vs = [.ref p, .int n] ∧ Ev K S H p A st ∧ EvOk st ∧ EvB st ∧ n ∈ st.waiting ∧ ∀ H', Same H H' → Q (.int (st.within n)) H'
theorem idx_at : ∀ {xs : List Int} {n : Int}, n ∈ xs → ∃ z : V, (xs.map V.int)[xs.idxOf n]? = some z ∧ eqV z (.int n) = true ∧ ∀ (m : Nat) (z' : V), m < xs.idxOf n → (xs.map V.int)[m]? = some z' → eqV z' (.int n) = false
  | x :: xs, n, h => by
    by_cases e : x = n
    · subst e
      rw [List.idxOf_cons_self]
      refine ⟨.int x, rfl, ?_, fun m z' hm => by omega⟩
      show (x == x) = true
      exact beq_self_eq_true x
    · have hm : n ∈ xs := (List.mem_cons.mp h).resolve_left (fun z => e z.symm)
      obtain ⟨z, h1, h2, h3⟩ := idx_at hm
      have ei : (x :: xs).idxOf n = xs.idxOf n + 1 := by
        rw [List.idxOf_cons, show (x == n) = false from beq_eq_false_iff_ne.mpr e]; rfl
      rw [ei]
      refine ⟨z, by simpa using h1, h2, fun m z' hm hz => ?_⟩
      cases m with
      | zero =>
        have hz : V.int x = z' := by simpa using hz
        rw [← hz]
        show (x == n) = false
        exact beq_eq_false_iff_ne.mpr e
      | succ m => exact h3 m z' (by omega) (by simpa using hz)
theorem queue_mem {st : EvS} {n : Int} : n ∈ st.queue ↔ n ∈ st.waiting := (inTurn_perm _ _).mem_iff
theorem me_Evening_within (T : Tx K mg) : Me P w K mg base (He.ga K "Evening") "within" 4 (sp_within K) := by
  obtain ⟨fd, F⟩ := T.d_Evening_within
  refine ⟨_, fd, _, F.ok (CX := CX0) sc_Evening_within (fun vs H Q E h => ?_) (fun cdv A outer s H vs Q E hr h => ?_), T.cls_Evening, T.me_Evening_within, F.bindsN fun _ _ _ _ _ _ us hl => match us, hl with | [_, _], _ => rfl⟩
  · obtain ⟨S, p, A, st, n, rfl, _⟩ := h; rfl
  · obtain ⟨S, p, A', st, n, rfl, ev, ok, eb, hn, q⟩ := h
    obtain ⟨dx, hp⟩ := ev.pp
    refine ⟨_, PSs.nox (pss_cons (ps_expr (pe_me (me_Evening_look_at T) (hr.mono (by first | decide | omega)) (pv 0) (pa_cons (pv 1) pa_nil)))
      (pss_one (ps_ret (pe_op op_add (pe_op op_add (show PE _ _ (tBM K _ _ _ _) from pe_bm PySem.F.plainAttrs_list PySem.F.slot_list_index PySem.F.type_list_index (show MtR _ _ (rIndex K) from mt_index) (pe_me0 (me_Evening_waits T) (hr.mono (by first | decide | omega)) (pv 0)) (pa_cons (pv 1) pa_nil)) pe_int) (pe_callB (show CallR _ _ (rLenQ K) from call_len_seq) (by rfl) T.len (by decide +kernel) (pa_cons (pe_me (me_Evening_ahead_of T) (hr.mono (by first | decide | omega)) (pv 0) (pa_cons (pv 1) pa_nil)) pa_nil)))))), ?_⟩
    refine ⟨_, rfl, p, dx, _, rfl, hp, evF_no _ _ (by decide +kernel), _, rfl, S, p, A', st, n, rfl, ev, hn, ?_⟩
    refine ⟨_, rfl, p, dx, _, rfl, hp, evF_no _ _ (by decide +kernel), S, p, A', st, rfl, ev, ok, fun l H1 nl s1 hl => ?_⟩
    obtain ⟨z, h1, h2, h3⟩ := idx_at (xs := st.queue) (queue_mem.mpr hn)
    refine ⟨.inl ⟨rfl, _, SqL.of hl⟩, _, rfl, l, _, _, _, z, rfl, rfl, SqL.of hl, rfl, flat_ints _, h1, h2, h3, _, _, rfl, rfl, ?_⟩
    have hp1 := s1 _ _ hp
    refine ⟨_, rfl, p, dx, _, rfl, hp1, evF_no _ _ (by decide +kernel), _, rfl, S, p, A', st, n, rfl, ev.mono s1, ok, eb, hn, fun l2 H2 cs nl2 s2 hl2 hO => ?_⟩
    refine ⟨l2, _, rfl, .inl (SqL.of hl2), _, _, rfl, rfl, ?_⟩
    rw [hO.1]
    exact q _ (s1.trans s2)
theorem sc_Evening_worst : FnScope ["self", "song", "singers"] ["self", "song"] (defScope s_Evening_worst) := ⟨rfl, rfl, rfl, by decide +kernel, rfl, by decide +kernel, by decide +kernel⟩
def sp_worst (K : PySem.W.Frag) : Sp := fun vs H Q _ => ∃ (S : List Addr) (p : Addr) (A : Ad) (st : EvS) (n : Int), vs = [.ref p, .int n] ∧ Ev K S H p A st ∧ EvOk st ∧ EvB st ∧ n ∈ st.waiting ∧
  ∀ l H' cs, H l = none → Same H H' → H' l = some (.lst cs) → cs.length = (st.ahead n).length → (∀ (i : Nat) v, cs[i]? = some v → ∃ b x, (st.ahead n)[i]? = some x ∧ v = .ref b ∧ off [l] H' b = some (.lst ([x].map V.int)) ∧ H b = none) → Q (.ref l) H'
theorem ahead_len (st : EvS) (n : Int) : (st.ahead n).length ≤ 24 := by
  unfold EvS.ahead
  rw [List.length_take]; omega
theorem me_Evening_worst (T : Tx K mg) : Me P w K mg base (He.ga K "Evening") "worst" 4 (sp_worst K) := by
  obtain ⟨fd, F⟩ := T.d_Evening_worst
  refine ⟨_, fd, _, F.ok (CX := CX0) sc_Evening_worst (fun vs H Q E h => ?_) (fun cdv A outer s H vs Q E hr h => ?_), T.cls_Evening, T.me_Evening_worst, F.bindsN fun _ _ _ _ _ _ us hl => match us, hl with | [_, _], _ => rfl⟩
  · obtain ⟨S, p, A, st, n, rfl, _⟩ := h; rfl
  · obtain ⟨S, p, A', st, n, rfl, ev, ok, eb, hn, q⟩ := h
    obtain ⟨dx, hp⟩ := ev.pp
    refine ⟨_, PSs.nox (pss_cons (ps_expr (pe_me (me_Evening_look_at T) (hr.mono (by first | decide | omega)) (pv 0) (pa_cons (pv 1) pa_nil)))
      (pss_one (ps_ret (pe_lc (own := [("singers", 2)]) (g := (gName 2)) (tt := tYes) (by rfl) sc_Evening_worst.nd (show PI _ _ _ (iList K _) from pi_list (pe_me (me_Evening_ahead_of T) (hr.mono (by first | decide | omega)) (pv 0) (pa_cons (pv 1) pa_nil))) (blkOk_by (by kernel_rfl)) (fun _ _ _ _ _ => (pg_name (i := 2) sc_Evening_worst.nd rfl (by first | exact Or.inl rfl | exact Or.inr rfl))) (fun _ _ _ _ _ => pts_nil) (fun _ _ _ _ _ => (pe_callTy (show CallR _ _ (rListO K) from call_list_of) (by rfl) T.list (by decide +kernel) (pa_cons (pv 2) pa_nil))))))), ?_⟩
    refine ⟨_, rfl, p, dx, _, rfl, hp, evF_no _ _ (by decide +kernel), _, rfl, S, p, A', st, n, rfl, ev, hn, ?_⟩
    refine ⟨_, rfl, p, dx, _, rfl, hp, evF_no _ _ (by decide +kernel), _, rfl, S, p, A', st, n, rfl, ev, ok, eb, hn, fun l H1 cs nl s1 hl hO => ?_⟩
    have al := ahead_len st n
    refine ⟨l, rfl, ⟨_, SqL.of hl⟩, fun D nD => lc_all walk_list sqL_mono (SqL.of hl) (fun i H' y => ∃ b x, (st.ahead n)[i]? = some x ∧ y = .ref b ∧ H' b = some (.lst ([x].map V.int)) ∧ H b = none) ?_ nD (by rw [hO.1]; omega) ?_ ?_ gname_mono⟩
    · rintro i X1 X2 y s ⟨b, x, h1, h2, h3, h4⟩
      exact ⟨b, x, h1, h2, s _ _ h3, h4⟩
    · rintro k x G1 G2 acc hk g1 hD ⟨rfl, hx⟩ kk hkk
      obtain ⟨c, y, hy, rfl, hc⟩ := hO.2 k x hx
      refine ⟨rfl, _, rfl, c, _, rfl, .inl (g1.seq hc), fun u nu => hkk _ _ (Same.new nu) ⟨u, y, hy, rfl, ?_, (s1.trans g1).free nu⟩⟩
      rw [off_out (by simp; exact (ne_of_none hD nu).symm)]
      exact upd_same
    · intro ys H2 s2 hD hyl hys
      exact q D H2 ys (s1.free nD) (s1.trans s2) hD (by rw [hyl, hO.1]) fun i v e => hys i v e
end
end Song

/-! ### P02: within how many turns, plainly (k02) -/
namespace Song
open PySem L2
theorem sing_rnds (st : EvS) : st.sing.rounds = st.rounds := by
  unfold EvS.sing
  cases st.next <;> rfl
def befR (rs : List Int) (a b : Int) : Bool := decide (rs.getD a.toNat 0 < rs.getD b.toNat 0 ∨ (rs.getD a.toNat 0 = rs.getD b.toNat 0 ∧ a < b))
theorem bef_total {rs : List Int} {a b : Int} (h : befR rs b a = false) (n : a ≠ b) : befR rs a b = true := by
  unfold befR at *
  have h := of_decide_eq_false h
  exact decide_eq_true (by omega)
theorem bef_self (rs : List Int) (a : Int) : befR rs a a = false := decide_eq_false (by omega)
theorem inTurn_sorted (rs ws : List Int) : (inTurn rs ws).Pairwise fun a b => befR rs b a = false := by
  unfold inTurn
  rw [List.pairwise_map]
  have hm : ∀ x ∈ sortP (ws.map fun s => (rs.getD s.toNat 0, s)), x.1 = rs.getD x.2.toNat 0 := fun x hx => by
    obtain ⟨s, _, rfl⟩ := List.mem_map.mp ((sortP_perm _).subset hx)
    rfl
  have hs : (sortP (ws.map fun s => (rs.getD s.toNat 0, s))).Pairwise fun x y => ltPr y x = false := sortP_sorted _
  refine hs.imp_of_mem fun {a b} ha hb h => ?_
  rw [ltPr_false] at h
  have h1 := hm a ha
  have h2 := hm b hb
  unfold befR
  rw [← h1, ← h2]
  exact decide_eq_false (by omega)
def posR (rs ws : List Int) (song : Int) : Nat := ws.countP fun w => befR rs w song
theorem pos_idx {rs : List Int} {song : Int} : ∀ {l : List Int}, l.Nodup → (l.Pairwise fun a b => befR rs b a = false) → song ∈ l → l.idxOf song = posR rs l song
  | x :: xs, nd, pw, h => by
    obtain ⟨n1, n2⟩ := List.nodup_cons.mp nd
    obtain ⟨p1, p2⟩ := List.pairwise_cons.mp pw
    unfold posR
    by_cases e : x = song
    · subst e
      rw [List.idxOf_cons_self, List.countP_cons_of_neg (by rw [bef_self]; decide)]
      refine (List.countP_eq_zero.mpr fun y hy => ?_).symm
      rw [p1 y hy]; decide
    · have hs : song ∈ xs := (List.mem_cons.mp h).resolve_left fun z => e z.symm
      rw [List.idxOf_cons, show (x == song) = false from beq_eq_false_iff_ne.mpr e, List.countP_cons_of_pos (p := fun w => befR rs w song) (bef_total (p1 song hs) e)]
      show xs.idxOf song + 1 = _
      rw [pos_idx n2 p2 hs]; rfl
def EvS.pos (st : EvS) (song : Int) : Nat := posR st.rounds st.waiting song
theorem queue_pos {st : EvS} (ok : EvOk st) {song : Int} (h : song ∈ st.waiting) : st.queue.idxOf song = st.pos song := by
  have p := inTurn_perm st.rounds st.waiting
  rw [show st.queue.idxOf song = posR st.rounds st.queue song from pos_idx (p.nodup_iff.mpr ok.nd) (inTurn_sorted _ _) (queue_mem.mpr h)]
  exact p.countP_eq _
theorem next_zero {st : EvS} (ok : EvOk st) {song : Int} (h : song ∈ st.waiting) (h0 : st.pos song = 0) : st.next = some song := by
  rw [← queue_pos ok h] at h0
  have hq : song ∈ st.queue := queue_mem.mpr h
  unfold EvS.next
  cases e : st.queue with
  | nil => rw [e] at hq; cases hq
  | cons x xs =>
    rw [e] at h0
    by_cases c : x = song
    · rw [c]; rfl
    · rw [List.idxOf_cons, show (x == song) = false from beq_eq_false_iff_ne.mpr c] at h0
      exact absurd h0 (by simp)
theorem next_pos {st : EvS} (ok : EvOk st) {song : Int} (h : song ∈ st.waiting) (h0 : st.pos song ≠ 0) : ∃ s, st.next = some s ∧ s ≠ song ∧ st.sing.pos song + 1 = st.pos song ∧ song ∈ st.sing.waiting := by
  have h1 := h0
  rw [← queue_pos ok h] at h0
  have hq : song ∈ st.queue := queue_mem.mpr h
  have pw := inTurn_sorted st.rounds st.waiting
  cases e : st.queue with
  | nil => rw [e] at hq; cases hq
  | cons x xs =>
    have en : st.next = some x := by unfold EvS.next; rw [e]; rfl
    rw [e] at h0 hq
    have c : x ≠ song := fun z => h0 (by rw [z, List.idxOf_cons_self])
    have hs : song ∈ xs := (List.mem_cons.mp hq).resolve_left fun z => c z.symm
    rw [show inTurn st.rounds st.waiting = x :: xs from e] at pw
    have hb : befR st.rounds x song = true := bef_total ((List.pairwise_cons.mp pw).1 song hs) c
    have hx : x ∈ st.waiting := EvS.next_mem en
    have hw : st.sing.waiting = st.waiting.erase x := by unfold EvS.sing; rw [en]
    refine ⟨x, en, c, ?_, by rw [hw]; exact (List.mem_erase_of_ne fun z => c z.symm).mpr h⟩
    unfold EvS.pos posR
    rw [hw, sing_rnds, (List.perm_cons_erase hx).countP_eq, List.countP_cons_of_pos (p := fun w => befR st.rounds w song) hb]
/-! #### room for songs ahead -/
def capN (last : List Int) (going most : Int) : Nat → Nat
  | 0 => 0
  | n + 1 => capN last going most n + (max 0 (most - floorOf last going (n : Int))).toNat
theorem moreA_cap {last : List Int} {going most : Int} : ∀ n, (moreA last going most n).length = capN last going most n
  | 0 => rfl
  | n + 1 => by
    show (moreA last going most n ++ _).length = _
    rw [List.length_append, List.length_replicate, moreA_cap n]; rfl
theorem within_eq {st : EvS} (ok : EvOk st) {song : Int} (h : song ∈ st.waiting) : st.within song = (st.pos song : Int) + 1 + (min (24 - st.rounds.length) (capN st.last st.going (st.rounds.getD song.toNat 0) st.last.length) : Nat) := by
  unfold EvS.within EvS.ahead
  rw [queue_pos ok h, List.length_take, moreA_cap]
theorem cap_le {l l' : List Int} {g g' most : Int} : ∀ {n : Nat}, (∀ i : Nat, i < n → floorOf l g i ≤ floorOf l' g' i) → capN l' g' most n ≤ capN l g most n
  | 0, _ => Nat.le_refl _
  | n + 1, h => by
    have ih := cap_le (most := most) (n := n) fun i hi => h i (by omega)
    have := h n (by omega)
    show capN l' g' most n + _ ≤ capN l g most n + _
    omega
theorem cap_lt {l l' : List Int} {g g' most : Int} {j : Nat} (hj : floorOf l g j < floorOf l' g' j) (hm : floorOf l g j < most) : ∀ {n : Nat}, j < n → (∀ i : Nat, i < n → floorOf l g i ≤ floorOf l' g' i) → capN l' g' most n + 1 ≤ capN l g most n
  | n + 1, hn, h => by
    show capN l' g' most n + _ + 1 ≤ capN l g most n + _
    by_cases e : j = n
    · subst e
      have ih := cap_le (most := most) (n := j) fun i hi => h i (by omega)
      omega
    · have ih := cap_lt hj hm (n := n) (by omega) fun i hi => h i (by omega)
      have := h n (by omega)
      omega
theorem setAll_get : ∀ {ss last : List Int} {n : Int} {i : Nat}, InB last.length ss → i < last.length → (setAll last ss n).getD i 0 = if (i : Int) ∈ ss then n else last.getD i 0
  | [], last, n, i, _, _ => by rw [if_neg (by simp)]; rfl
  | s :: r, last, n, i, h, hi => by
    have hr : InB (last.set s.toNat n).length r := fun x hx => by rw [List.length_set]; exact h x (by simp [hx])
    show (setAll (last.set s.toNat n) r n).getD i 0 = _
    rw [setAll_get hr (by rw [List.length_set]; exact hi)]
    obtain ⟨s0, s1⟩ := h s (by simp)
    by_cases c : (i : Int) ∈ r
    · rw [if_pos c, if_pos (by simp [c])]
    · rw [if_neg c, List.getD_eq_getElem?_getD, List.getElem?_set]
      by_cases c2 : s.toNat = i
      · rw [if_pos c2, if_pos (by omega), if_pos (List.mem_cons.mpr (.inl (by omega)))]; rfl
      · rw [if_neg c2, if_neg (fun z => (List.mem_cons.mp z).elim (fun e => c2 (by omega)) c), List.getD_eq_getElem?_getD]
theorem num_ge {st : EvS} {ss : List Int} {s : Int} (h : s ∈ ss) : floorOf st.last st.going s ≤ st.num ss := by
  unfold EvS.num roundFor
  exact maxL_ge (List.mem_map.mpr ⟨s, h, rfl⟩)
theorem num_going {st : EvS} {ss : List Int} (h : ss ≠ []) : st.going ≤ st.num ss := by
  cases ss with
  | nil => exact absurd rfl h
  | cons s r =>
    have := num_ge (st := st) (ss := s :: r) (s := s) (by simp)
    unfold floorOf at this
    omega
theorem wish_floor {st : EvS} {ss : List Int} (hi : InB st.last.length ss) {i : Nat} (h : i < st.last.length) : floorOf (st.wish ss).last st.going i = if (i : Int) ∈ ss then max st.going (st.num ss + 1) else floorOf st.last st.going i := by
  unfold floorOf
  rw [show ((i : Nat) : Int).toNat = i by omega, show (st.wish ss).last = setAll st.last ss (st.num ss) from rfl, setAll_get hi h]
  split <;> rfl
theorem wish_pos {st : EvS} (ok : EvOk st) {ss : List Int} {song : Int} (h : song ∈ st.waiting) : (st.wish ss).pos song = st.pos song + (if st.num ss < st.rounds.getD song.toNat 0 then 1 else 0) := by
  have hs := ok.inb song h
  have hg : ∀ w ∈ st.waiting, (st.rounds ++ [st.num ss]).getD w.toNat 0 = st.rounds.getD w.toNat 0 := fun w hw => by
    have := ok.inb w hw
    rw [List.getD_eq_getElem?_getD, List.getElem?_append_left (by omega), List.getD_eq_getElem?_getD]
  have hn : (st.rounds ++ [st.num ss]).getD ((st.rounds.length : Int)).toNat 0 = st.num ss := by
    rw [show ((st.rounds.length : Int)).toNat = st.rounds.length by omega, List.getD_eq_getElem?_getD, List.getElem?_append_right (Nat.le_refl _), Nat.sub_self]; rfl
  show (st.waiting ++ [(st.rounds.length : Int)]).countP (fun w => befR (st.rounds ++ [st.num ss]) w song) = _
  rw [List.countP_append, List.countP_cons, List.countP_nil]
  have e1 : st.waiting.countP (fun w => befR (st.rounds ++ [st.num ss]) w song) = st.pos song := by
    refine List.countP_congr fun w hw => ?_
    unfold befR
    rw [hg w hw, hg song h]
  rw [e1]
  congr 1
  unfold befR
  rw [hn, hg song h]
  by_cases c : st.num ss < st.rounds.getD song.toNat 0
  · rw [if_pos c, if_pos (decide_eq_true (.inl c))]
  · rw [if_neg c, if_neg (by rw [decide_eq_false (by omega)]; decide)]
theorem wish_round {st : EvS} (ok : EvOk st) {ss : List Int} {song : Int} (h : song ∈ st.waiting) : (st.wish ss).rounds.getD song.toNat 0 = st.rounds.getD song.toNat 0 := by
  have := ok.inb song h
  show (st.rounds ++ [st.num ss]).getD song.toNat 0 = _
  rw [List.getD_eq_getElem?_getD, List.getElem?_append_left (by omega), List.getD_eq_getElem?_getD]
theorem wish_in {st : EvS} {ss : List Int} {song : Int} (h : song ∈ st.waiting) : song ∈ (st.wish ss).waiting := List.mem_append.mpr (.inl h)
theorem wish_rl (st : EvS) (ss : List Int) : (st.wish ss).rounds.length = st.rounds.length + 1 := by
  show (st.rounds ++ [_]).length = _
  rw [List.length_append]; rfl
theorem wish_ll (st : EvS) (ss : List Int) : (st.wish ss).last.length = st.last.length := setAll_len _ _ _
/-- a wish never makes it later -/
theorem wish_within {st : EvS} (ok : EvOk st) {ss : List Int} (ok2 : EvOk (st.wish ss)) (hr : st.rounds.length < 24) (hi : InB st.last.length ss) (hn : ss ≠ []) {song : Int} (h : song ∈ st.waiting) : (st.wish ss).within song ≤ st.within song := by
  rw [within_eq ok h, within_eq ok2 (wish_in h), wish_pos ok h, wish_round ok h, wish_rl, wish_ll]
  show _ + _ + ((min _ (capN (st.wish ss).last st.going _ _) : Nat) : Int) ≤ _
  have hf : ∀ i : Nat, i < st.last.length → floorOf st.last st.going i ≤ floorOf (st.wish ss).last st.going i := fun i hl => by
    rw [wish_floor hi hl]
    split
    · rename_i c
      have := num_ge (st := st) c
      omega
    · exact Int.le_refl _
  by_cases c : st.num ss < st.rounds.getD song.toNat 0
  · rw [if_pos c]
    cases ss with
    | nil => exact absurd rfl hn
    | cons s r =>
      obtain ⟨s0, s1⟩ := hi s (by simp)
      obtain ⟨j, rfl⟩ := Int.eq_ofNat_of_zero_le s0
      have hj : j < st.last.length := by omega
      have hg := num_ge (st := st) (ss := (j : Int) :: r) (s := (j : Int)) (by simp)
      have hw := wish_floor hi hj
      rw [if_pos (by simp)] at hw
      have := cap_lt (most := st.rounds.getD song.toNat 0) (show floorOf st.last st.going j < floorOf (st.wish ((j : Int) :: r)).last st.going j by omega) (by omega) hj hf
      omega
  · rw [if_neg c]
    have := cap_le (most := st.rounds.getD song.toNat 0) hf
    omega
/-- songs that wait have no lesser round than the one that goes -/
def GoB (st : EvS) : Prop := ∀ w ∈ st.waiting, st.going ≤ st.rounds.getD w.toNat 0
theorem GoB.new (many : Int) : GoB (evNew many) := fun w hw => by cases hw
theorem GoB.wish {st : EvS} (g : GoB st) (ok : EvOk st) {ss : List Int} (hn : ss ≠ []) : GoB (st.wish ss) := fun w hw => by
  rcases List.mem_append.mp hw with z | z
  · rw [wish_round ok z]; exact g w z
  · rw [List.mem_singleton.mp z]
    show st.going ≤ (st.rounds ++ [st.num ss]).getD _ 0
    rw [show ((st.rounds.length : Int)).toNat = st.rounds.length by omega, List.getD_eq_getElem?_getD, List.getElem?_append_right (Nat.le_refl _), Nat.sub_self]
    exact num_going hn
theorem GoB.out {st : EvS} (g : GoB st) (n : Int) : GoB (st.out n) := fun w hw => g w (List.mem_of_mem_erase hw)
theorem GoB.sing {st : EvS} (g : GoB st) : GoB st.sing := by
  cases e : st.next with
  | none =>
    have : st.sing = { st with tale := st.tale ++ [.sing none] } := by unfold EvS.sing; rw [e]
    rw [this]; exact g
  | some x =>
    have es : st.sing = { st with waiting := st.waiting.erase x, going := st.rounds.getD x.toNat 0, tale := st.tale ++ [.sing (some x)] } := by unfold EvS.sing; rw [e]
    rw [es]
    intro w hw
    have hw : w ∈ st.waiting := List.mem_of_mem_erase hw
    have pw := inTurn_sorted st.rounds st.waiting
    have hq : w ∈ st.queue := queue_mem.mpr hw
    unfold EvS.next at e
    cases eq : st.queue with
    | nil => rw [eq] at hq; cases hq
    | cons y ys =>
      rw [eq] at e hq
      have e : y = x := Option.some.inj e
      subst e
      rw [show inTurn st.rounds st.waiting = y :: ys from eq] at pw
      show st.rounds.getD y.toNat 0 ≤ st.rounds.getD w.toNat 0
      rcases List.mem_cons.mp hq with z | z
      · rw [z]; exact Int.le_refl _
      · have h := (List.pairwise_cons.mp pw).1 w z
        unfold befR at h
        have h := of_decide_eq_false h
        omega
/-- a turn brings it nearer -/
theorem sing_within {st : EvS} (ok : EvOk st) (g : GoB st) {song : Int} (h : song ∈ st.waiting) (h0 : st.pos song ≠ 0) : st.sing.within song + 1 ≤ st.within song := by
  obtain ⟨x, en, c, hp, hw⟩ := next_pos ok h h0
  rw [within_eq ok h, within_eq ok.sing hw, sing_rnds, EvS.sing_last]
  have eg : st.sing.going = st.rounds.getD x.toNat 0 := by unfold EvS.sing; rw [en]
  have hg : st.going ≤ st.sing.going := by rw [eg]; exact g x (EvS.next_mem en)
  have := cap_le (l := st.last) (l' := st.last) (g := st.going) (g' := st.sing.going) (most := st.rounds.getD song.toNat 0) (n := st.last.length) fun i _ => by unfold floorOf; omega
  omega
theorem within_pos {st : EvS} (ok : EvOk st) {song : Int} (h : song ∈ st.waiting) : 1 ≤ st.within song := by rw [within_eq ok h]; omega
theorem within_one {st : EvS} (ok : EvOk st) {song : Int} (h : song ∈ st.waiting) (h1 : st.within song ≤ 1) : st.next = some song := by
  rw [within_eq ok h] at h1
  exact next_zero ok h (by omega)
/-! #### the worst wishes -/
def wishAll (st : EvS) (L : List Int) : EvS := L.foldl (fun st s => st.wish [s]) st
theorem num_one (st : EvS) (s : Int) : st.num [s] = floorOf st.last st.going s := by
  unfold EvS.num roundFor maxL
  rfl
theorem one_in {n : Nat} {s : Int} (h : 0 ≤ s ∧ s < n) : InB n [s] := fun x hx => by rw [List.mem_singleton.mp hx]; exact h
theorem worst_pos {song : Int} : ∀ {L : List Int} {st : EvS}, EvOk st → song ∈ st.waiting → InB st.last.length L → st.rounds.length + L.length ≤ 24 →
    (∀ i : Nat, i < st.last.length → (L.count (i : Int) : Int) ≤ max 0 (st.rounds.getD song.toNat 0 - floorOf st.last st.going i)) → (wishAll st L).pos song = st.pos song + L.length ∧ EvOk (wishAll st L) ∧ song ∈ (wishAll st L).waiting
  | [], st, ok, h, _, _, _ => ⟨rfl, ok, h⟩
  | s :: L, st, ok, h, hi, hr, hc => by
    rw [List.length_cons] at hr
    have hs := hi s (by simp)
    have ok2 : EvOk (st.wish [s]) := ok.wish (by omega) (by show 1 ≤ 3; decide)
    obtain ⟨j, rfl⟩ := Int.eq_ofNat_of_zero_le hs.1
    have hj : j < st.last.length := by omega
    have h1 := hc j hj
    rw [List.count_cons_self] at h1
    have hlt : st.num [(j : Int)] < st.rounds.getD song.toNat 0 := by rw [num_one]; omega
    have ih := worst_pos (L := L) ok2 (wish_in h) (fun x hx => by rw [wish_ll]; exact hi x (by simp [hx])) (by rw [wish_rl]; omega) (fun i hl => by
      rw [wish_ll] at hl
      rw [wish_round ok h, show (st.wish [(j : Int)]).going = st.going from rfl, wish_floor (one_in hs) hl, num_one]
      have hci := hc i hl
      by_cases e : i = j
      · subst e
        rw [if_pos (by simp)]
        rw [num_one] at hlt
        have : floorOf st.last st.going i ≥ st.going := by unfold floorOf; omega
        omega
      · rw [if_neg (by simp; omega)]
        rw [List.count_cons_of_ne (by simp; omega)] at hci
        exact hci)
    refine ⟨?_, ih.2⟩
    show (wishAll (st.wish [(j : Int)]) L).pos song = _
    rw [ih.1, wish_pos ok h, if_pos hlt, List.length_cons]
    omega
theorem moreA_count {last : List Int} {going most : Int} : ∀ {n i : Nat}, ((moreA last going most n).count (i : Int) : Int) ≤ max 0 (most - floorOf last going i)
  | 0, i => by show ((0 : Nat) : Int) ≤ _; omega
  | n + 1, i => by
    show ((moreA last going most n ++ _).count (i : Int) : Int) ≤ _
    rw [List.count_append, List.count_replicate]
    by_cases e : n = i
    · subst e
      have : (moreA last going most n).count (n : Int) = 0 := List.count_eq_zero.mpr fun z => by have := moreA_in z; omega
      rw [this, if_pos (by simp)]
      omega
    · rw [if_neg (by simp; omega)]
      have := moreA_count (last := last) (going := going) (most := most) (n := n) (i := i)
      omega
theorem ahead_worst {st : EvS} (ok : EvOk st) {song : Int} (h : song ∈ st.waiting) : (wishAll st (st.ahead song)).pos song = st.pos song + (st.ahead song).length ∧ EvOk (wishAll st (st.ahead song)) ∧ song ∈ (wishAll st (st.ahead song)).waiting := by
  refine worst_pos ok h (fun x hx => moreA_in (List.mem_of_mem_take hx)) ?_ fun i hl => ?_
  · have := ok.r24
    unfold EvS.ahead
    rw [List.length_take]; omega
  · have h1 := moreA_count (last := st.last) (going := st.going) (most := st.rounds.getD song.toNat 0) (n := st.last.length) (i := i)
    have h2 : (st.ahead song).count (i : Int) ≤ (moreA st.last st.going (st.rounds.getD song.toNat 0) st.last.length).count (i : Int) := (List.take_sublist _ _).count_le _
    omega
end Song

/-! ### Lb02: an evening and its state behind deeds (k02) -/
namespace Song
open PySem L2
/-- deeds in the heap, one by one -/
def DeedsL (H : Hp) (many : Int) (vs : List V) (ds : List Deed) : Prop := vs.length = ds.length ∧ ∀ (i : Nat) v, vs[i]? = some v → ∃ d, ds[i]? = some d ∧ DeedAt H v d ∧ DeedOk many d
theorem DeedsL.mono {H H' : Hp} {many : Int} {vs : List V} {ds : List Deed} (s : Same H H') (h : DeedsL H many vs ds) : DeedsL H' many vs ds := ⟨h.1, fun i v e => by
  obtain ⟨d, h1, h2, h3⟩ := h.2 i v e
  exact ⟨d, h1, h2.mono s, h3⟩⟩
theorem Deeds.each {H : Hp} {many : Int} : ∀ {vs : List V}, Deeds H many vs → ∃ ds, DeedsL H many vs ds
  | [], _ => ⟨[], rfl, fun i v e => (by cases e)⟩
  | v :: vs, h => by
    obtain ⟨d, h1, h2⟩ := h v (by simp)
    obtain ⟨ds, hl, hd⟩ := Deeds.each (vs := vs) fun u hu => h u (by simp [hu])
    refine ⟨d :: ds, by rw [List.length_cons, List.length_cons, hl], fun i u e => ?_⟩
    cases i with
    | zero =>
      have e : v = u := by simpa using e
      subst e
      exact ⟨d, rfl, h1, h2⟩
    | succ i => exact hd i u (by simpa using e)
def began (many : Int) (ds : List Deed) : EvS := ds.foldl doDeed (evNew many)
theorem doDeed_B {st : EvS} {d : Deed} (h : EvB st) (ok : EvOk st) (hd : DeedOk st.last.length d) : EvB (doDeed st d) := by
  cases d with
  | wish ss =>
    simp only [doDeed]
    split
    · exact h
    · obtain ⟨t1, _, tin, _⟩ := areS_len hd
      exact h.wish tin (fun e => by rw [e] at t1; simp at t1)
  | sing => exact h.sing ok
  | out n =>
    simp only [doDeed]
    split
    · exact h
    · exact h.out _
theorem doDeed_G {st : EvS} {d : Deed} (h : GoB st) (ok : EvOk st) (hd : DeedOk st.last.length d) : GoB (doDeed st d) := by
  cases d with
  | wish ss =>
    simp only [doDeed]
    split
    · exact h
    · obtain ⟨t1, _, _, _⟩ := areS_len hd
      exact h.wish ok (fun e => by rw [e] at t1; simp at t1)
  | sing => exact h.sing
  | out n =>
    simp only [doDeed]
    split
    · exact h
    · exact h.out _
/-- an evening and its state stand apart and tell the same -/
structure Two (K : PySem.W.Frag) (H : Hp) (p d : Addr) (A B : Ad) (many : Int) (st : EvS) : Prop where
  ev : Ev K (own p A ++ own d B) H p A st
  ls : Ls (own p A ++ own d B) H d B st
  dj : Dj p A d B
  ok : EvOk st
  eb : EvB st
  gb : GoB st
  la : (st.last.length : Int) = many
theorem Two.mono {K : PySem.W.Frag} {H H' : Hp} {p d : Addr} {A B : Ad} {many : Int} {st : EvS} (s : Same H H') (t : Two K H p d A B many st) : Two K H' p d A B many st := ⟨t.ev.mono s, t.ls.mono s, t.dj, t.ok, t.eb, t.gb, t.la⟩
section
variable {P : Program} {w : World} {K : PySem.W.Frag} {mg : Str → Option Value} {base : Heap}
theorem sc__law_began : FnScope ["_law_many_here", "_law_deeds_here", "_law_evening", "_law_state", "_law_kind", "_law_more", "_law_song"] ["_law_many_here", "_law_deeds_here"] (defScope s__law_began) := ⟨rfl, rfl, rfl, by decide +kernel, rfl, by decide +kernel, by decide +kernel⟩
def sp_began (K : PySem.W.Frag) : Sp := fun vs H Q _ => ∃ (l : Addr) (many : Int) (ds : List V) (dds : List Deed), vs = [.int many, .ref l] ∧ 1 ≤ many ∧ many ≤ 6 ∧ H l = some (.lst ds) ∧ DeedsL H many ds dds ∧ ds.length ≤ 63 ∧
  ∀ t p d A B H', Same H H' → H' t = some (.tup [.ref p, .ref d]) → (∀ x ∈ own p A ++ own d B, H x = none) → Two K H' p d A B many (began many dds) → (began many dds).tale.length ≤ 63 → Q (.ref t) H'
theorem fn__law_began (T : Tx K mg) : Fn P w K mg base "_law_began" 5 (sp_began K) := by
  obtain ⟨fd, F⟩ := T.d__law_began
  refine ⟨_, fd, _, F.ok (CX := CX0) sc__law_began (fun vs H Q E h => ?_) (fun cdv A outer s H vs Q E hr h => ?_), T.g__law_began, F.kp, F.bindsN fun _ _ _ _ _ _ us hl => match us, hl with | [_, _], _ => rfl⟩
  · obtain ⟨l, many, ds, dds, rfl, _⟩ := h; rfl
  · obtain ⟨l, many, ds, dds, rfl, m1, m6, hl, hds, d63, q⟩ := h
    refine ⟨_, PSs.nox (pss_cons (ps_par (i := 2) (j := 3) (by rfl) sc__law_began.nd rfl rfl (by decide) rfl rfl (pa_cons (pe_mk (mk_Evening T) (hr.mono (by first | decide | omega)) (by rfl) (pa_cons (pv 0) pa_nil)) (pa_cons (pe_fn (fn__law_open T) (hr.mono (by first | decide | omega)) (by rfl) (pa_cons (pv 0) pa_nil)) pa_nil)) (by rfl))
      (pss_cons (ps_for PassesOwn.never rfl (show PI _ _ _ (iList K _) from pi_list (pv 1)) (show PG _ _ (gTup K _ _) from pg_tup rfl (pgs_cons (pg_name (i := 4) sc__law_began.nd rfl (by first | exact Or.inl rfl | exact Or.inr rfl)) (pgs_cons (pg_name (i := 5) sc__law_began.nd rfl (by first | exact Or.inl rfl | exact Or.inr rfl)) pgs_nil)))
      (pss_one (ps_if (PW.pt (pw_and (pt_cmpR op_eq (pv 4) pe_str (nomark _)) (pw_and1 (pt_cmpR op_lt (pe_callB (show CallR _ _ (rLenQ K) from call_len_seq) (by rfl) T.len (by decide +kernel) (pa_cons (pe_dget (hu_of hr) (pv 3) pe_str (fun _ _ => rfl)) pa_nil)) pe_int (nomark _))))) (pss_cons (ps_expr (pe_fn (fn__law_wished T) (hr.mono (by first | decide | omega)) (by rfl) (pa_cons (pv 3) (pa_cons (pv 5) pa_nil))))
      (pss_one (ps_expr (pe_me (me_Evening_wish T) (hr.mono (by first | decide | omega)) (pv 2) (pa_cons (pe_callTy (show CallR _ _ (rListO K) from call_list_of) (by rfl) T.list (by decide +kernel) (pa_cons (pv 5) pa_nil)) pa_nil))))) (pss_one (ps_if (pt_cmpR op_eq (pv 4) pe_str (nomark _)) (pss_cons (ps_expr (pe_fn (fn__law_sung T) (hr.mono (by first | decide | omega)) (by rfl) (pa_cons (pv 3) pa_nil)))
      (pss_one (ps_expr (pe_me0 (me_Evening_sing T) (hr.mono (by first | decide | omega)) (pv 2))))) (pss_one (ps_if (PW.pt (pw_and (pt_cmpR op_eq (pv 4) pe_str (nomark _)) (pw_and1 (pt_cmpR (show OpR _ _ (rNeD K) from op_neD hr.units) (pe_dget (hu_of hr) (pv 3) pe_str (fun _ _ => rfl)) (pe_lst pa_nil) (nomark _))))) (pss_cons (ps_set (i := 6) sc__law_began.nd rfl (by first | exact Or.inl rfl | exact Or.inr rfl) (pe_ix (show IxR _ (rIxL K) from ix_list) (pe_dget (hu_of hr) (pv 3) pe_str (fun _ _ => rfl)) (pe_op op_mod (pv 5) (pe_callB (show CallR _ _ (rLenQ K) from call_len_seq) (by rfl) T.len (by decide +kernel) (pa_cons (pe_dget (hu_of hr) (pv 3) pe_str (fun _ _ => rfl)) pa_nil))) (fun _ _ => rfl)))
      (pss_cons (ps_expr (pe_fn (fn__law_out T) (hr.mono (by first | decide | omega)) (by rfl) (pa_cons (pv 3) (pa_cons (pv 6) pa_nil))))
      (pss_one (ps_expr (pe_me (me_Evening_withdraw T) (hr.mono (by first | decide | omega)) (pv 2) (pa_cons (pv 6) pa_nil)))))) pss_nil)))))))
      (pss_one (ps_ret (pe_tup (pa_cons (pv 2) (pa_cons (pv 3) pa_nil))))))), ?_⟩
    refine ⟨_, rfl, fun p dx np ndx ned => ?_⟩
    refine ⟨p, dx, _, rfl, m1, m6, upd_same, fun H3 A' f3 c3 a1 a2 a3 a4 => ⟨rfl, ?_⟩⟩
    have s3 : Same H H3 := made_same np ndx f3
    refine ⟨_, rfl, _, rfl, m1, m6, fun H4 d B s4 c4 nd b1 b2 b3 b4 => ?_⟩
    refine ⟨_, _, rfl, ?_⟩
    have okN := evNew_ok m1 m6
    have dB : ∀ x ∈ own d B, H3 x = none := fun x hx => by
      unfold own at hx
      simp only [List.mem_cons, List.not_mem_nil, or_false] at hx
      rcases hx with e | e | e | e | e <;> (rw [e]; assumption)
    have dA : ∀ x ∈ own p A', H x = none := fun x hx => by
      unfold own at hx
      simp only [List.mem_cons, List.not_mem_nil, or_false] at hx
      rcases hx with e | e | e | e | e <;> rw [e]
      · exact np
      · exact made_free a1
      · exact made_free a2
      · exact made_free a3
      · exact made_free a4
    have dj : Dj p A' d B := fun x hx hx2 => by
      obtain ⟨o, ho⟩ := c3.domOwn x hx2
      rw [dB x hx] at ho; cases ho
    have dom4 : ∀ x ∈ own p A' ++ own d B, ∃ o, H4 x = some o := fun x hx => by
      rcases List.mem_append.mp hx with h | h
      · exact dom_same s4 c3.domOwn x h
      · exact c4.domOwn x h
    have ev4 : Ev K (own p A' ++ own d B) H4 p A' (evNew many) := ⟨⟨[], c3.mono s4, trivial⟩, fun x h => List.mem_append_left _ h, dom4, by show 0 ≤ 900; decide⟩
    have ls4 : Ls (own p A' ++ own d B) H4 d B (evNew many) := ⟨⟨[], c4, trivial⟩, fun x h => List.mem_append_right _ h, dom4, by show 0 ≤ 900; decide⟩
    have frS : ∀ x ∈ own p A' ++ own d B, H x = none := fun x hx => by
      rcases List.mem_append.mp hx with h | h
      · exact dA x h
      · exact s3.free (dB x h)
    have tw4 : Two K H4 p d A' B many (evNew many) := ⟨ev4, ls4, dj, okN, EvB.new many, GoB.new many, by show ((List.replicate many.toNat (0 : Int)).length : Int) = many; rw [List.length_replicate]; omega⟩
    have s04 := s3.trans s4
    have lS : l ∉ own p A' ++ own d B := fun z => by rw [frS l z] at hl; cases hl
    have hcl := hds.1
    refine ⟨_, rfl, l, rfl, ⟨_, SqL.of (s04 _ _ hl)⟩, for_list (K := K) (a := l) (xs := ds) (fun i σ H' => ∃ (x4 x5 x6 : Option V), σ = [some (.int many), some (.ref l), some (.ref p), some (.ref d), x4, x5, x6] ∧
      Same H H' ∧ Two K H' p d A' B many (began many (dds.take i)) ∧ (began many (dds.take i)).tale.length ≤ i) ?_ ?_ ?_ ?_⟩
    · exact ⟨_, _, _, rfl, s04, tw4, Nat.le_refl _⟩
    · rintro i σ G _ ⟨_, _, _, _, g, _⟩
      exact SqL.of (g _ _ hl)
    · rintro i v σ G hv ⟨x4, x5, x6, rfl, g, tw, htl⟩
      have hi : i < ds.length := (List.getElem?_eq_some_iff.mp hv).1
      obtain ⟨dd, hdd, hda0, hdo⟩ := hds.2 i v hv
      have hst : began many (dds.take (i + 1)) = doDeed (began many (dds.take i)) dd := by
        unfold began
        rw [List.take_add_one, hdd, List.foldl_append]; rfl
      rw [hst]
      generalize began many (dds.take i) = st at *
      have hda : DeedAt (off (own p A' ++ own d B) G) v dd := by
        have : Same H (off (own p A' ++ own d B) G) := fun b o e => by
          rw [off_out (fun z => by rw [frS b z] at e; cases e)]; exact g _ _ e
        exact hda0.mono this
      have hdo2 : DeedOk st.last.length dd := by rw [tw.la]; exact hdo
      have fin : ∀ G', Fra (own p A' ++ own d B) G G' → Ev K (own p A' ++ own d B) G' p A' (doDeed st dd) → Ls (own p A' ++ own d B) G' d B (doDeed st dd) → Same H G' ∧ Two K G' p d A' B many (doDeed st dd) ∧ (doDeed st dd).tale.length ≤ i + 1 := fun G' f e1 e2 =>
        ⟨f.back g frS, ⟨e1, e2, tw.dj, doDeed_ok tw.ok hdo, doDeed_B tw.eb tw.ok hdo2, doDeed_G tw.gb tw.ok hdo2, by rw [doDeed_last]; exact tw.la⟩, Nat.le_trans (doDeed_tale st dd) (by omega)⟩
      have ev := tw.ev
      have ls := tw.ls
      have ok := tw.ok
      have hlt : st.tale.length < 900 := by omega
      obtain ⟨dx, hp⟩ := ev.pp
      obtain ⟨cs, c, hq⟩ := ls.cell
      cases v with
      | ref t =>
        cases dd with
        | wish ss =>
          obtain ⟨b, ht, hb⟩ := hda
          have ht' := (off_some ht).2
          have hb' := (off_some hb).2
          refine ⟨t, _, rfl, SqT.of ht', rfl, _, _, rfl, _, _, rfl, rfl, ?_⟩
          refine ⟨_, rfl, rfl, _, rfl, ?_⟩
          rw [decide_eq_true rfl]
          refine iteT ⟨_, rfl, d, _, rfl, c.gRounds, B.ro, _, rfl, .inl (SqL.of c.ro), _, _, rfl, rfl, _, rfl, ?_⟩
          rw [List.length_map]
          have r24 := ok.r24
          by_cases h24 : st.rounds.length = 24
          · rw [decide_eq_false (by omega)]
            have e : doDeed st (.wish ss) = st := by simp only [doDeed]; rw [if_pos h24]
            rw [e] at fin ⊢
            refine iteF ⟨_, rfl, rfl, _, rfl, ?_⟩
            rw [nS1]
            refine iteF ⟨_, rfl, rfl, _, rfl, ?_⟩
            rw [nO1]
            exact iteF (iteF ⟨_, _, _, rfl, fin G (Fra.refl _ _) ev ls⟩)
          · rw [decide_eq_true (by omega)]
            have e : doDeed st (.wish ss) = st.wish ss := by simp only [doDeed]; rw [if_neg h24]
            rw [e] at fin ⊢
            have hb2 : off (own d B) G b = some (.lst (ss.map V.int)) := by rw [off_out (fun z => (off_some hb).1 (ls.sub _ z))]; exact hb'
            refine iteT ⟨_, rfl, _, rfl, _, d, b, B, st, ss, rfl, ls, ok, hlt, SqL.of hb2, hdo2, by omega, fun G1 u f1 ls1 nu hu => ?_⟩
            have ev1 := ev.fra f1 ls.sub ls1.dom tw.dj.symm
            obtain ⟨dx1, hp1⟩ := ev1.pp
            have hb1 : G1 b = some (.lst (ss.map V.int)) := f1 _ _ (fun z => (off_some hb).1 (ls.sub _ z)) hb'
            refine ⟨_, rfl, p, dx1, _, rfl, hp1, evF_no _ _ (by decide +kernel), _, rfl, b, _, rfl, .inl (SqL.of hb1), fun c1 nc1 => ?_⟩
            refine to_new nc1 fun G2 g2 hc1 => ?_
            have c1p : c1 ∉ own p A' := fun z => new_out ev1.dom nc1 (ev.sub _ z)
            refine ⟨_, p, c1, A', st, ss, rfl, ev1.mono g2, ok, hlt, SqL.of (by rw [off_out c1p]; exact hc1), hdo2, by omega, fun G3 u2 f3 ev3 nu2 hu2 => ?_⟩
            have ls3 := (ls1.mono g2).fra f3 ev.sub ev3.dom tw.dj
            exact ⟨_, _, _, rfl, fin G3 ((f1.mono ls.sub).trans ((Fra.of g2).trans (f3.mono ev.sub))) ev3 ls3⟩
        | sing =>
          have ht' := (off_some hda).2
          refine ⟨t, _, rfl, SqT.of ht', rfl, _, _, rfl, _, _, rfl, rfl, ?_⟩
          refine ⟨_, rfl, rfl, _, rfl, ?_⟩
          rw [nW1]
          refine iteF (iteF ⟨_, rfl, rfl, _, rfl, ?_⟩)
          rw [decide_eq_true rfl]
          refine iteT ⟨_, rfl, _, d, B, st, rfl, ls, ok, hlt, fun G1 f1 ls1 => ?_⟩
          have ev1 := ev.fra f1 ls.sub ls1.dom tw.dj.symm
          obtain ⟨dx1, hp1⟩ := ev1.pp
          refine ⟨_, rfl, p, dx1, _, rfl, hp1, evF_no _ _ (by decide +kernel), _, p, A', st, rfl, ev1, ok, hlt, fun G2 f2 ev2 => ?_⟩
          have ls2 := ls1.fra f2 ev.sub ev2.dom tw.dj
          exact ⟨_, _, _, rfl, fin G2 ((f1.mono ls.sub).trans (f2.mono ev.sub)) ev2 ls2⟩
        | out n =>
          have ht' := (off_some hda).2
          refine ⟨t, _, rfl, SqT.of ht', rfl, _, _, rfl, _, _, rfl, rfl, ?_⟩
          refine ⟨_, rfl, rfl, _, rfl, ?_⟩
          rw [nW2]
          refine iteF (iteF ⟨_, rfl, rfl, _, rfl, ?_⟩)
          rw [nS2]
          refine iteF ⟨_, rfl, rfl, _, rfl, ?_⟩
          rw [decide_eq_true rfl]
          refine iteT ⟨_, rfl, d, _, rfl, c.gWaits, Nat.zero_le _, fun e ne => ?_⟩
          refine to_new ne fun G1 g1 he => ?_
          have c1 := c.mono g1
          refine ⟨_, _, dp_ints (SqL.of c1.wa), .lst (SqL.of he) .nil, (shp_ints _).ok, shp_nil.ok, _, rfl, ?_⟩
          rw [eqv_nil]
          by_cases hw : st.waiting = []
          · have e1 : doDeed st (.out n) = st := by simp only [doDeed]; rw [if_pos hw]
            rw [e1] at fin ⊢
            rw [show st.waiting.isEmpty = true by rw [hw]; rfl]
            exact iteF ⟨_, _, _, rfl, fin G1 (Fra.of g1) (ev.mono g1) (ls.mono g1)⟩
          · have e1 : doDeed st (.out n) = st.out (st.waiting.getD (n % (st.waiting.length : Int)).toNat 0) := by simp only [doDeed]; rw [if_neg hw]
            rw [e1] at fin ⊢
            have wl : 0 < st.waiting.length := List.length_pos_iff.mpr hw
            have m0 := Int.emod_nonneg n (b := (st.waiting.length : Int)) (by omega)
            have m1 := Int.emod_lt_of_pos n (b := (st.waiting.length : Int)) (by omega)
            rw [show st.waiting.isEmpty = false from List.isEmpty_eq_false_iff.mpr hw]
            have mem : st.waiting.getD (n % (st.waiting.length : Int)).toNat 0 ∈ st.waiting := by
              rw [List.getD_eq_getElem?_getD, List.getElem?_eq_getElem (by omega)]
              exact List.getElem_mem _
            refine iteT ⟨_, rfl, d, _, rfl, c1.gWaits, _, rfl, _, rfl, d, _, rfl, c1.gWaits, B.wa, _, rfl, .inl (SqL.of c1.wa), _, _, rfl, rfl, ?_⟩
            rw [List.length_map]
            refine ⟨by show (0 : Int) < _; omega, B.wa, _, _, _, rfl, rfl, SqL.of c1.wa, at_int m0 m1, ?_⟩
            generalize st.waiting.getD (n % (st.waiting.length : Int)).toNat 0 = song at *
            refine ⟨_, rfl, _, rfl, _, d, B, st, song, rfl, ls.mono g1, ok, hlt, mem, fun G2 f2 ls2 => ?_⟩
            have ev2 := (ev.mono g1).fra f2 ls.sub ls2.dom tw.dj.symm
            obtain ⟨dx2, hp2⟩ := ev2.pp
            refine ⟨_, rfl, p, dx2, _, rfl, hp2, evF_no _ _ (by decide +kernel), _, rfl, _, p, A', st, song, rfl, ev2, ok, hlt, mem, fun G3 f3 ev3 => ?_⟩
            have ls3 := ls2.fra f3 ev.sub ev3.dom tw.dj
            exact ⟨_, _, _, rfl, fin G3 ((Fra.of g1).trans ((f2.mono ls.sub).trans (f3.mono ev.sub))) ev3 ls3⟩
      | _ => exact hda.elim
    · rintro σ G ⟨x4, x5, x6, rfl, g, tw, htl⟩
      rw [hcl, List.take_length] at tw htl
      refine ⟨_, rfl, _, rfl, by show 2 ≤ sizeLine; decide, fun t nt => ?_⟩
      refine to_new nt fun G1 g1 ht => ?_
      exact q t p d A' B G1 (g.trans g1) ht frS (tw.mono g1) (by omega)
end
end Song

/-! ### Lv02: singles that can still come ahead; turns till a song is sung (k02) -/
namespace Song
open PySem L2
/-- new lists of one number each -/
def NewO (H0 H : Hp) (vs : List V) (xs : List Int) : Prop := vs.length = xs.length ∧ ∀ (i : Nat) v, vs[i]? = some v → ∃ b x, xs[i]? = some x ∧ v = .ref b ∧ H b = some (.lst [V.int x]) ∧ H0 b = none
theorem NewO.mono {H0 H H' : Hp} {vs : List V} {xs : List Int} (s : Same H H') (h : NewO H0 H vs xs) : NewO H0 H' vs xs := ⟨h.1, fun i v e => by
  obtain ⟨b, x, h1, h2, h3, h4⟩ := h.2 i v e
  exact ⟨b, x, h1, h2, s _ _ h3, h4⟩⟩
theorem NewO.snoc {H0 H : Hp} {vs : List V} {xs : List Int} (h : NewO H0 H vs xs) {b : Addr} {x : Int} (hb : H b = some (.lst [V.int x])) (nb : H0 b = none) : NewO H0 H (vs ++ [.ref b]) (xs ++ [x]) := by
  refine ⟨by rw [List.length_append, List.length_append, h.1]; rfl, fun i v e => ?_⟩
  by_cases c : i < vs.length
  · rw [List.getElem?_append_left c] at e
    rw [List.getElem?_append_left (by rw [← h.1]; exact c)]
    exact h.2 i v e
  · rw [List.getElem?_append_right (by omega)] at e
    have hi : i - vs.length = 0 := by
      have := (List.getElem?_eq_some_iff.mp e).1
      rw [List.length_singleton] at this; omega
    rw [hi] at e
    have e : V.ref b = v := by simpa using e
    rw [List.getElem?_append_right (by rw [← h.1]; omega), ← h.1, hi]
    exact ⟨b, x, rfl, e.symm, hb, nb⟩
theorem NewO.take {H0 H : Hp} {vs : List V} {xs : List Int} (n : Nat) (h : NewO H0 H vs xs) : NewO H0 H (vs.take n) (xs.take n) := by
  refine ⟨by rw [List.length_take, List.length_take, h.1], fun i v e => ?_⟩
  have hi := (List.getElem?_eq_some_iff.mp e).1
  rw [List.length_take] at hi
  rw [List.getElem?_take_of_lt (by omega)] at e ⊢
  exact h.2 i v e
theorem eqv_int (s n : Int) : PyData.eqv (optD (some s)) (.int n) = decide (s = n) := by
  show (s == n) = _
  by_cases e : s = n
  · rw [decide_eq_true e, e]; exact beq_self_eq_true n
  · rw [decide_eq_false e]; exact beq_eq_false_iff_ne.mpr e
section
variable {P : Program} {w : World} {K : PySem.W.Frag} {mg : Str → Option Value} {base : Heap}
theorem sc__law_worst : FnScope ["_law_state", "_law_song", "_law_found", "_law_singer", "_law_last", "_law_number"] ["_law_state", "_law_song"] (defScope s__law_worst) := ⟨rfl, rfl, rfl, by decide +kernel, rfl, by decide +kernel, by decide +kernel⟩
def sp_lworst : Sp := fun vs H Q _ => ∃ (S : List Addr) (d : Addr) (B : Ad) (st : EvS) (n : Int), vs = [.ref d, .int n] ∧ Ls S H d B st ∧ EvOk st ∧ EvB st ∧ n ∈ st.waiting ∧
  ∀ l H' cs, H l = none → Same H H' → H' l = some (.lst cs) → NewO H (off [l] H') cs (st.ahead n) → Q (.ref l) H'
theorem fn__law_worst (T : Tx K mg) : Fn P w K mg base "_law_worst" 1 sp_lworst := by
  obtain ⟨fd, F⟩ := T.d__law_worst
  refine ⟨_, fd, _, F.ok (CX := CX0) sc__law_worst (fun vs H Q E h => ?_) (fun cdv A outer s H vs Q E hr h => ?_), T.g__law_worst, F.kp, F.bindsN fun _ _ _ _ _ _ us hl => match us, hl with | [_, _], _ => rfl⟩
  · obtain ⟨S, d, B, st, n, rfl, _⟩ := h; rfl
  · obtain ⟨S, d, B, st, n, rfl, ls, ok, eb, hn, q⟩ := h
    refine ⟨_, PSs.nox (pss_cons (ps_set (i := 2) sc__law_worst.nd rfl (by first | exact Or.inl rfl | exact Or.inr rfl) (pe_lst pa_nil))
      (pss_cons (ps_for PassesOwn.never rfl (show PI _ _ _ (iEnum K _) from pi_enum (by rfl) T.enumerate (pa_cons (pe_dget (hu_of hr) (pv 0) pe_str (fun _ _ => rfl)) pa_nil)) (show PG _ _ (gTup K _ _) from pg_tup rfl (pgs_cons (pg_name (i := 3) sc__law_worst.nd rfl (by first | exact Or.inl rfl | exact Or.inr rfl)) (pgs_cons (pg_name (i := 4) sc__law_worst.nd rfl (by first | exact Or.inl rfl | exact Or.inr rfl)) pgs_nil)))
      (pss_one (ps_for PassesOwn.never rfl (pi_range2 (by rfl) T.range (pa_cons (pe_callB (call_max2 (by rfl)) (by rfl) T.max (by decide +kernel) (pa_cons (pe_dget (hu_of hr) (pv 0) pe_str (fun _ _ => rfl)) (pa_cons (pe_op op_add (pv 4) pe_int) pa_nil))) (pa_cons (pe_ix (show IxR _ (rIxL K) from ix_list) (pe_dget (hu_of hr) (pv 0) pe_str (fun _ _ => rfl)) (pv 1) (fun _ _ => rfl)) pa_nil))) (pg_name (i := 5) sc__law_worst.nd rfl (by first | exact Or.inl rfl | exact Or.inr rfl))
      (pss_one (ps_expr (show PE _ _ (tBM K _ _ _ _) from pe_bm PySem.F.plainAttrs_list PySem.F.slot_list_append PySem.F.type_list_append mt_append (pv 2) (pa_cons (pe_lst (pa_cons (pv 3) pa_nil)) pa_nil)))))))
      (pss_one (ps_ret (pe_slice (show SlR _ (rSlL K) from sl_list) (pv 2) po_none (po_some (pe_op op_sub pe_int (pe_callB (show CallR _ _ (rLenQ K) from call_len_seq) (by rfl) T.len (by decide +kernel) (pa_cons (pe_dget (hu_of hr) (pv 0) pe_str (fun _ _ => rfl)) pa_nil))))))))), ?_⟩
    obtain ⟨cs0, c, hq⟩ := ls.cell
    obtain ⟨n0, n1⟩ := ok.inb n hn
    have hr := eb.round ok hn
    have hgo := eb.go
    have r24 := ok.r24
    have six := ok.six
    refine ⟨Nat.zero_le _, fun fl nfl => ?_⟩
    refine to_new nfl fun H1 s1 hfl => ?_
    have c1 := c.mono s1
    refine ⟨_, rfl, d, _, rfl, c1.gLast, B.la, _, rfl, SqL.of c1.la, for_it (walk_enum (xs := st.last.map V.int)) (fun i σ H' => ∃ (cs : List V) (x3 x4 x5 : Option V), σ = [some (.ref d), some (.int n), some (.ref fl), x3, x4, x5] ∧ Same H H' ∧ H' fl = some (.lst cs) ∧
      NewO H (off [fl] H') cs (moreA st.last st.going (st.rounds.getD n.toNat 0) i)) ?_ ?_ ?_ ?_⟩
    · exact ⟨[], _, _, _, rfl, s1, hfl, rfl, fun i v e => (by cases e)⟩
    · rintro i σ H' _ ⟨cs, _, _, _, _, g, _⟩
      exact SqL.of (g _ _ c.la)
    · rintro i v σ G G2 hi ⟨cs, x3, x4, x5, rfl, g, hf, hN⟩ ⟨t, x, y, rfl, nt, rfl, hx, hy⟩
      cases hx
      obtain ⟨la, rfl, hla⟩ := int_at hy
      rw [List.length_map] at hi
      have ela : st.last.getD i 0 = la := by rw [List.getD_eq_getElem?_getD, hla]; rfl
      refine ⟨t, _, rfl, SqT.of upd_same, rfl, _, _, rfl, _, _, rfl, rfl, ?_⟩
      refine to_new nt fun G1 g1 ht => ?_
      have g01 := g.trans g1
      have c2 := c.mono g01
      have efl : floorOf st.last st.going (i : Int) = max st.going (la + 1) := by
        unfold floorOf
        rw [show ((i : Nat) : Int).toNat = i by omega, ela]
      have hlb := eb.la la (List.mem_of_getElem? hla)
      refine ⟨_, rfl, d, _, rfl, c2.gGoing, _, rfl, _, _, rfl, rfl, _, _, rfl, ?_⟩
      rw [max_ite]
      refine ⟨_, rfl, d, _, rfl, c2.gRounds, _, rfl, B.ro, _, _, _, rfl, rfl, SqL.of c2.ro, at_int n0 n1, _, _, rfl, ⟨by omega, by omega, by omega, by omega⟩, for_range (fun k σ H' => ∃ (cs : List V) (x5 : Option V), σ = [some (.ref d), some (.int n), some (.ref fl), some (.int i), some (.int la), x5] ∧ Same H H' ∧ H' fl = some (.lst cs) ∧
        NewO H (off [fl] H') cs (moreA st.last st.going (st.rounds.getD n.toNat 0) i ++ List.replicate k (i : Int))) ?_ ?_ ?_⟩
      · refine ⟨cs, _, rfl, g01, g1 _ _ hf, ?_⟩
        rw [List.replicate_zero, List.append_nil]
        exact hN.mono (off_mono g1)
      · rintro k σ W hk ⟨cs2, x5', rfl, gw, hw, hNw⟩
        have hk24 : k < 24 := by omega
        have ml := moreA_len (last := st.last) (most := st.rounds.getD n.toNat 0) hgo.1 hr.2 i
        have hcl := hNw.1
        rw [List.length_append, List.length_replicate] at hcl
        refine ⟨_, rfl, .inl ⟨rfl, _, SqL.of hw⟩, _, rfl, by show 1 ≤ sizeLine; decide, fun u nu => ?_⟩
        refine to_new nu fun W1 w1 hu => ?_
        refine ⟨fl, _, _, rfl, rfl, w1 _ _ hw, lt_line (by omega), ?_⟩
        refine to_put fun W2 f2 hf2 => ?_
        have nfu : u ≠ fl := (ne_of_none hw nu).symm
        refine ⟨cs2 ++ [.ref u], _, rfl, f2.back (gw.trans w1) (fun x hx => by rw [List.mem_singleton.mp hx]; exact nfl), hf2, ?_⟩
        rw [List.replicate_succ', ← List.append_assoc]
        refine (hNw.mono ((off_mono w1).trans (Fra.off f2))).snoc ?_ (gw.free nu)
        rw [off_out (by simp; exact nfu)]
        exact f2.one nfu hu
      · rintro σ W ⟨cs2, x5', rfl, gw, hw, hNw⟩
        refine ⟨cs2, _, _, _, rfl, gw, hw, ?_⟩
        show NewO H _ cs2 (moreA _ _ _ i ++ List.replicate (max 0 (st.rounds.getD n.toNat 0 - floorOf st.last st.going (i : Int))).toNat (i : Int))
        rw [efl, show (max 0 (st.rounds.getD n.toNat 0 - max st.going (la + 1))).toNat = (st.rounds.getD n.toNat 0 - max st.going (la + 1)).toNat by omega]
        exact hNw
    · rintro σ G ⟨cs, x3, x4, x5, rfl, g, hf, hN⟩
      rw [List.length_map] at hN
      have c2 := c.mono g
      refine ⟨_, rfl, _, rfl, d, _, rfl, c2.gRounds, B.ro, _, rfl, .inl (SqL.of c2.ro), _, _, rfl, rfl, _, rfl, fl, _, rfl, SqL.of hf, fun l nl => ?_⟩
      rw [show cutV cs none (some ((24 : Int) - ((st.rounds.map V.int).length : Nat))) = cs.take (24 - st.rounds.length) by
        rw [List.length_map, show (24 : Int) - (st.rounds.length : Nat) = ((24 - st.rounds.length : Nat) : Int) by omega]; exact cut_head _ _]
      refine to_new nl fun G1 g1 hl => ?_
      refine q l G1 _ (g.free nl) (g.trans g1) hl ?_
      have h1 := (hN.take (24 - st.rounds.length))
      refine ⟨h1.1, fun i v e => ?_⟩
      obtain ⟨b, x, e1, e2, e3, e4⟩ := h1.2 i v e
      have e3 := (off_some e3).2
      refine ⟨b, x, e1, e2, ?_, e4⟩
      rw [off_out (by simp; exact ne_of_none e3 nl)]
      exact g1 _ _ e3
theorem sc__law_turns_till : FnScope ["_law_evening", "_law_song", "_law_turn"] ["_law_evening", "_law_song"] (defScope s__law_turns_till) := ⟨rfl, rfl, rfl, by decide +kernel, rfl, by decide +kernel, by decide +kernel⟩
def sp_till (K : PySem.W.Frag) : Sp := fun vs H Q _ => ∃ (S : List Addr) (p : Addr) (A : Ad) (st : EvS) (n : Int), vs = [.ref p, .int n] ∧ Ev K S H p A st ∧ EvOk st ∧ st.tale.length ≤ 800 ∧ n ∈ st.waiting ∧
  ∀ H', Fra (own p A) H H' → Q (.int ((st.pos n : Nat) + 1)) H'
theorem pos_24 {st : EvS} (ok : EvOk st) (n : Int) : st.pos n ≤ 24 := Nat.le_trans (List.countP_le_length) ok.w24
theorem fn__law_turns_till (T : Tx K mg) : Fn P w K mg base "_law_turns_till" 3 (sp_till K) := by
  obtain ⟨fd, F⟩ := T.d__law_turns_till
  refine ⟨_, fd, _, F.ok (CX := CX0) sc__law_turns_till (fun vs H Q E h => ?_) (fun cdv A outer s H vs Q E hr h => ?_), T.g__law_turns_till, F.kp, F.bindsN fun _ _ _ _ _ _ us hl => match us, hl with | [_, _], _ => rfl⟩
  · obtain ⟨S, p, A, st, n, rfl, _⟩ := h; rfl
  · obtain ⟨S, p, A', st, n, rfl, ev, ok, t8, hn, q⟩ := h
    refine ⟨_, PSs.nox (pss_cons (ps_for PassesOwn.never rfl (pi_range2 (by rfl) T.range (pa_cons pe_int (pa_cons pe_int pa_nil))) (pg_name (i := 2) sc__law_turns_till.nd rfl (by first | exact Or.inl rfl | exact Or.inr rfl))
      (pss_one (ps_if (pt_cmpR (show OpR _ _ (rEqD K) from op_eqD hr.units) (pe_me0 (me_Evening_sing T) (hr.mono (by first | decide | omega)) (pv 0)) (pv 1) (nomark _)) (pss_one (ps_ret (pv 2))) pss_nil)))
      (pss_one (ps_ret pe_int))), ?_⟩
    have p24 := pos_24 ok n
    refine ⟨_, _, rfl, ⟨by decide, by decide, by decide, by decide⟩, for_range (lo := 1) (fun i σ H' => ∃ (st' : EvS) (x2 : Option V), σ = [some (.ref p), some (.int n), x2] ∧ Fra (own p A') H H' ∧ Ev K S H' p A' st' ∧ EvOk st' ∧ st'.tale.length = st.tale.length + i ∧ n ∈ st'.waiting ∧ st'.pos n + i = st.pos n) ?_ ?_ ?_⟩
    · exact ⟨st, _, rfl, Fra.refl _ _, ev, ok, rfl, hn, rfl⟩
    · rintro i σ G hi ⟨st', x2, rfl, f, ev', ok', tl, hn', hp⟩
      obtain ⟨dx, hpp⟩ := ev'.pp
      have hi : i < 29 := hi
      refine ⟨_, rfl, p, dx, _, rfl, hpp, evF_no _ _ (by decide +kernel), S, p, A', st', rfl, ev', ok', by omega, fun G1 f1 ev1 => ?_⟩
      by_cases h0 : st'.pos n = 0
      · rw [next_zero ok' hn' h0]
        refine ⟨_, rfl, _, _, dp_opt _, .int n, (shp_optD _).ok, (shp_int (k := 0) _).ok, _, rfl, ?_⟩
        rw [eqv_int, decide_eq_true rfl]
        refine iteT ⟨_, rfl, ?_⟩
        have e : (1 : Int) + (i : Nat) = (st.pos n : Nat) + 1 := by omega
        rw [e]
        exact q _ (f.trans f1)
      · obtain ⟨s, en, ne, hpos, hw⟩ := next_pos ok' hn' h0
        rw [en]
        refine ⟨_, rfl, _, _, dp_opt _, .int n, (shp_optD _).ok, (shp_int (k := 0) _).ok, _, rfl, ?_⟩
        rw [eqv_int, decide_eq_false ne]
        have tl1 := sing_tale st'
        exact iteF ⟨st'.sing, _, rfl, f.trans f1, ev1, ok'.sing, by omega, hw, by omega⟩
    · rintro σ G ⟨st', x2, rfl, f, ev', ok', tl, hn', hp⟩
      have hp : st'.pos n + 29 = st.pos n := hp
      omega
end
end Song

/-! ### Lr02: what is due of one song (k02) -/
namespace Song
open PySem L2
theorem wishAll_snoc (st : EvS) (L : List Int) (x : Int) : wishAll st (L ++ [x]) = (wishAll st L).wish [x] := by
  unfold wishAll
  rw [List.foldl_append]; rfl
theorem wishAll_len : ∀ (L : List Int) (st : EvS), (wishAll st L).rounds.length = st.rounds.length + L.length ∧ (wishAll st L).last.length = st.last.length ∧ (wishAll st L).tale.length = st.tale.length + L.length
  | [], st => ⟨rfl, rfl, rfl⟩
  | x :: L, st => by
    obtain ⟨h1, h2, h3⟩ := wishAll_len L (st.wish [x])
    refine ⟨?_, ?_, ?_⟩
    · show (wishAll (st.wish [x]) L).rounds.length = _
      rw [h1, wish_rl, List.length_cons]; omega
    · show (wishAll (st.wish [x]) L).last.length = _
      rw [h2, wish_ll]
    · show (wishAll (st.wish [x]) L).tale.length = _
      rw [h3, show (st.wish [x]).tale.length = st.tale.length + 1 by show (st.tale ++ [_]).length = _; rw [List.length_append]; rfl, List.length_cons]; omega
theorem wishAll_ok : ∀ {L : List Int} {st : EvS}, EvOk st → st.rounds.length + L.length ≤ 24 → EvOk (wishAll st L)
  | [], _, ok, _ => ok
  | x :: L, st, ok, h => by
    rw [List.length_cons] at h
    exact wishAll_ok (L := L) (ok.wish (ss := [x]) (by omega) (by show 1 ≤ 3; decide)) (by rw [wish_rl]; omega)
def onesD (xs : List Int) : PyData := .list (xs.map fun x => .list [.int x])
theorem onesD_shp (xs : List Int) : Shp 4 (onesD xs) := shp_list fun x hx => by
  obtain ⟨y, _, rfl⟩ := List.mem_map.mp hx
  exact (shp_ints [y]).mono (by decide)
theorem onesD_dp {K : PySem.W.Frag} {H : Hp} : ∀ {vs : List V} {xs : List Int}, vs.length = xs.length → (∀ (i : Nat) v, vs[i]? = some v → ∃ b x, xs[i]? = some x ∧ v = .ref b ∧ H b = some (.lst [V.int x])) → DpAll K H vs (xs.map fun x => .list [.int x])
  | [], [], _, _ => .nil
  | v :: vs, x :: xs, hl, h => by
    obtain ⟨b, y, h1, h2, h3⟩ := h 0 v rfl
    have h1 : x = y := by simpa using h1
    subst h1
    subst h2
    refine .cons (dp_ints (ns := [x]) (SqL.of h3)) (onesD_dp (by simpa using hl) fun i u e => h (i + 1) u (by simpa using e))
section
variable {P : Program} {w : World} {K : PySem.W.Frag} {mg : Str → Option Value} {base : Heap}
theorem sc__law_right : FnScope ["_law_many_here", "_law_deeds_here", "_law_song", "_law_drawn", "_law_evening", "_law_state", "_law_due", "_law_most", "_law_again", "_law_told", "_law_found", "_law_singers", "_law_other", "_law_turn", "_law_kind"] ["_law_many_here", "_law_deeds_here", "_law_song", "_law_drawn"] (defScope s__law_right) := ⟨rfl, rfl, rfl, by decide +kernel, rfl, by decide +kernel, by decide +kernel⟩
def sp_right (K : PySem.W.Frag) : Sp := fun vs H Q _ => ∃ (l dl : Addr) (many song : Int) (ds vs2 : List V) (dds dd2 : List Deed), vs = [.int many, .ref l, .int song, .ref dl] ∧ 1 ≤ many ∧ many ≤ 6 ∧ H l = some (.lst ds) ∧ DeedsL H many ds dds ∧ ds.length ≤ 63 ∧
  H dl = some (.lst vs2) ∧ DeedsL H many vs2 dd2 ∧ song ∈ (began many dds).waiting ∧ ∀ H', Same H H' → Q (.bl true) H'
theorem fn__law_right (T : Tx K mg) : Fn P w K mg base "_law_right" 6 (sp_right K) := by
  obtain ⟨fd, F⟩ := T.d__law_right
  refine ⟨_, fd, _, F.ok (CX := CX0) sc__law_right (fun vs H Q E h => ?_) (fun cdv A outer s H vs Q E hr h => ?_), T.g__law_right, F.kp, F.bindsN fun _ _ _ _ _ _ us hl => match us, hl with | [_, _, _, _], _ => rfl⟩
  · obtain ⟨l, dl, many, song, ds, vs2, dds, dd2, rfl, _⟩ := h; rfl
  · obtain ⟨l, dl, many, song, ds, vs2, dds, dd2, rfl, m1, m6, hl, hds, d63, hdl, hd2, hsw, q⟩ := h
    refine ⟨_, PSs.nox (pss_cons (ps_asg (pe_fn (fn__law_began T) (hr.mono (by first | decide | omega)) (by rfl) (pa_cons (pv 0) (pa_cons (pv 1) pa_nil))) (show PG _ _ (gTup K _ _) from pg_tup rfl (pgs_cons (pg_name (i := 4) sc__law_right.nd rfl (by first | exact Or.inl rfl | exact Or.inr rfl)) (pgs_cons (pg_name (i := 5) sc__law_right.nd rfl (by first | exact Or.inl rfl | exact Or.inr rfl)) pgs_nil))))
      (pss_cons (ps_set (i := 6) sc__law_right.nd rfl (by first | exact Or.inl rfl | exact Or.inr rfl) (pe_fn (fn__law_worst T) (hr.mono (by first | decide | omega)) (by rfl) (pa_cons (pv 5) (pa_cons (pv 2) pa_nil))))
      (pss_cons (ps_set (i := 7) sc__law_right.nd rfl (by first | exact Or.inl rfl | exact Or.inr rfl) (pe_op op_add (pe_op op_add (show PE _ _ (tBM K _ _ _ _) from pe_bm PySem.F.plainAttrs_list PySem.F.slot_list_index PySem.F.type_list_index (show MtR _ _ (rIndex K) from mt_index) (pe_fn (fn__law_queue T) (hr.mono (by first | decide | omega)) (by rfl) (pa_cons (pv 5) pa_nil)) (pa_cons (pv 2) pa_nil)) pe_int) (pe_callB (show CallR _ _ (rLenQ K) from call_len_seq) (by rfl) T.len (by decide +kernel) (pa_cons (pv 6) pa_nil))))
      (pss_cons (ps_for PassesOwn.never rfl (pi_range1 (by rfl) T.range (pa_cons pe_int pa_nil)) (pg_name (i := 8) sc__law_right.nd rfl (by first | exact Or.inl rfl | exact Or.inr rfl))
      (pss_cons (ps_par (i := 9) (j := 10) (by rfl) sc__law_right.nd rfl rfl (by decide) rfl rfl (pa_cons (pe_me (me_Evening_within T) (hr.mono (by first | decide | omega)) (pv 4) (pa_cons (pv 2) pa_nil)) (pa_cons (pe_me (me_Evening_worst T) (hr.mono (by first | decide | omega)) (pv 4) (pa_cons (pv 2) pa_nil)) pa_nil)) (by rfl))
      (pss_cons (ps_if (PW.pt (pw_or (pt_not (pt_val (pe_fn (fn__law_whole T) (hr.mono (by first | decide | omega)) (by rfl) (pa_cons (pv 9) pa_nil)))) (pw_or (pt_cmpR (show OpR _ _ (rNeD K) from op_neD hr.units) (pv 9) (pv 7) (nomark _)) (pw_or (pt_not (pt_val (pe_callB (show CallR _ _ (rIsi K) from call_isi) (by rfl) T.isinstance (by decide +kernel) (pa_cons (pv 10) (pa_cons (pe_gt (n := "list") T.list (by rfl) (by decide +kernel)) pa_nil))))) (pw_or1 (pt_cmpR (show OpR _ _ (rNeD K) from op_neD hr.units) (pv 10) (pv 6) (nomark _))))))) (pss_one (ps_ret pe_bl)) pss_nil)
      (pss_cons (ps_for PassesOwn.never rfl (show PI _ _ _ (iList K _) from pi_list (pv 10)) (pg_name (i := 11) sc__law_right.nd rfl (by first | exact Or.inl rfl | exact Or.inr rfl))
      (pss_one (ps_expr (show PE _ _ (tBM K _ _ _ _) from pe_bm PySem.F.plainAttrs_list PySem.F.slot_list_append PySem.F.type_list_append mt_append (pv 11) (pa_cons pe_int pa_nil)))))
      (pss_one (ps_expr (show PE _ _ (tBM K _ _ _ _) from pe_bm PySem.F.plainAttrs_list PySem.F.slot_list_append PySem.F.type_list_append mt_append (pv 10) (pa_cons (pe_lst (pa_cons pe_int pa_nil)) pa_nil))))))))
      (pss_cons (ps_for PassesOwn.never rfl (show PI _ _ _ (iList K _) from pi_list (pv 6)) (pg_name (i := 11) sc__law_right.nd rfl (by first | exact Or.inl rfl | exact Or.inr rfl))
      (pss_one (ps_expr (pe_me (me_Evening_wish T) (hr.mono (by first | decide | omega)) (pv 4) (pa_cons (pv 11) pa_nil)))))
      (pss_cons (ps_if (pt_cmpR op_ne (pe_fn (fn__law_turns_till T) (hr.mono (by first | decide | omega)) (by rfl) (pa_cons (pv 4) (pa_cons (pv 2) pa_nil))) (pv 7) (nomark _)) (pss_one (ps_ret pe_bl)) pss_nil)
      (pss_cons (ps_asg (pe_fn (fn__law_began T) (hr.mono (by first | decide | omega)) (by rfl) (pa_cons (pv 0) (pa_cons (pv 1) pa_nil))) (show PG _ _ (gTup K _ _) from pg_tup rfl (pgs_cons (pg_name (i := 12) sc__law_right.nd rfl (by first | exact Or.inl rfl | exact Or.inr rfl)) (pgs_cons (pg_name (i := 5) sc__law_right.nd rfl (by first | exact Or.inl rfl | exact Or.inr rfl)) pgs_nil))))
      (pss_cons (ps_for PassesOwn.never rfl (pi_range2 (by rfl) T.range (pa_cons pe_int (pa_cons (pe_op op_add (pv 7) pe_int) pa_nil))) (pg_name (i := 13) sc__law_right.nd rfl (by first | exact Or.inl rfl | exact Or.inr rfl))
      (pss_cons (ps_for PassesOwn.never rfl (show PI _ _ _ (iList K _) from pi_list (pe_slice (show SlR _ (rSlL K) from sl_list) (pv 3) (po_some (pe_op op_mulO pe_int (pv 13))) (po_some (pe_op op_add (pe_op op_mulO pe_int (pv 13)) pe_int)))) (show PG _ _ (gTup K _ _) from pg_tup rfl (pgs_cons (pg_name (i := 14) sc__law_right.nd rfl (by first | exact Or.inl rfl | exact Or.inr rfl)) (pgs_cons (pg_name (i := 11) sc__law_right.nd rfl (by first | exact Or.inl rfl | exact Or.inr rfl)) pgs_nil)))
      (pss_one (ps_if (PW.pt (pw_and (pt_cmpR op_eq (pv 14) pe_str (nomark _)) (pw_and1 (pt_cmpR op_lt (pe_callB (show CallR _ _ (rLenQ K) from call_len_seq) (by rfl) T.len (by decide +kernel) (pa_cons (pe_dget (hu_of hr) (pv 5) pe_str (fun _ _ => rfl)) pa_nil)) pe_int (nomark _))))) (pss_cons (ps_expr (pe_fn (fn__law_wished T) (hr.mono (by first | decide | omega)) (by rfl) (pa_cons (pv 5) (pa_cons (pv 11) pa_nil))))
      (pss_one (ps_expr (pe_me (me_Evening_wish T) (hr.mono (by first | decide | omega)) (pv 12) (pa_cons (pv 11) pa_nil))))) pss_nil)))
      (pss_cons (ps_if (pt_cmpR (show OpR _ _ (rEqD K) from op_eqD hr.units) (pe_me0 (me_Evening_sing T) (hr.mono (by first | decide | omega)) (pv 12)) (pv 2) (nomark _)) (pss_one (ps_ret pe_bl)) pss_nil)
      (pss_one (ps_expr (pe_fn (fn__law_sung T) (hr.mono (by first | decide | omega)) (by rfl) (pa_cons (pv 5) pa_nil)))))))
      (pss_one (ps_ret pe_bl)))))))))), ?_⟩
    refine ⟨_, rfl, _, rfl, l, many, ds, dds, rfl, m1, m6, hl, hds, d63, fun t p d A' B H1 s1 ht fr1 tw t63 => ?_⟩
    have twq := tw
    refine ⟨t, _, rfl, SqT.of ht, rfl, _, _, rfl, _, _, rfl, rfl, ?_⟩
    generalize hst : began many dds = st at *
    have ok := tw.ok
    have eb := tw.eb
    have r24 := ok.r24
    refine ⟨_, rfl, _, rfl, _, d, B, st, song, rfl, tw.ls, ok, eb, hsw, fun du H2 csd ndu s2 hdu hNd => ?_⟩
    have tw2 := tw.mono s2
    refine ⟨_, rfl, _, d, B, st, rfl, tw2.ls, ok, fun ql H3 nql s3 hql => ?_⟩
    obtain ⟨z, h1, h2, h3⟩ := idx_at (xs := st.queue) (queue_mem.mpr hsw)
    refine ⟨.inl ⟨rfl, _, SqL.of hql⟩, _, rfl, ql, _, _, _, z, rfl, rfl, SqL.of hql, rfl, flat_ints _, h1, h2, h3, _, _, rfl, rfl, ?_⟩
    have hdu3 := s3 _ _ hdu
    refine ⟨_, rfl, du, _, rfl, .inl (SqL.of hdu3), _, _, rfl, rfl, ?_⟩
    have hmo : ((st.queue.idxOf song : Nat) : Int) + 1 + ((csd.length : Nat) : Int) = st.within song := by unfold EvS.within; rw [hNd.1]
    have hal := ahead_len st song
    have s13 := s2.trans s3
    have hN3 : NewO H1 (off [du] H3) csd (st.ahead song) := hNd.mono (off_mono s3)
    have hW24 : st.within song ≤ 49 := by
      have := pos_24 ok song
      rw [within_eq ok hsw]
      omega
    have tw3 := tw.mono s13
    refine ⟨2, rfl, by decide, by decide, for_range (lo := 0) (fun i σ H' => ∃ (x8 x9 x10 x11 : Option V), σ = [some (.int many), some (.ref l), some (.int song), some (.ref dl), some (.ref p), some (.ref d), some (.ref du), some (.int (st.within song)), x8, x9, x10, x11, none, none, none] ∧ Same H3 H') ?_ ?_ ?_⟩
    · rw [← hmo]
      exact ⟨_, _, _, _, rfl, Same.refl _⟩
    · rintro i σ G hi ⟨x8, x9, x10, x11, rfl, g⟩
      have twG := tw3.mono g
      obtain ⟨dx, hp⟩ := twG.ev.pp
      refine ⟨_, rfl, p, dx, _, rfl, hp, evF_no _ _ (by decide +kernel), _, rfl, _, p, A', st, song, rfl, twG.ev, ok, eb, hsw, fun G1 g1 => ?_⟩
      refine ⟨_, rfl, p, dx, _, rfl, g1 _ _ hp, evF_no _ _ (by decide +kernel), _, rfl, _, p, A', st, song, rfl, twG.ev.mono g1, ok, eb, hsw, fun fo G2 cs2 nfo g2 hfo hc2 hO2 => ?_⟩
      refine ⟨_, _, rfl, ?_⟩
      have g02 := g.trans (g1.trans g2)
      refine ⟨_, rfl, _, "int", rfl, kd_int _, _, rfl, iteF ?_⟩
      refine ⟨_, rfl, _, rfl, _, _, .int _, .int _, (shp_int (k := 0) _).ok, (shp_int (k := 0) _).ok, _, rfl, ?_⟩
      rw [eqv_self (shp_int (k := 0) _)]
      refine iteF ⟨_, rfl, _, _, _, _, _, rfl, .ty _, kd_list (SqL.of hfo), (kit_kd (kd_list (SqL.of hfo))).2.2.1, _, rfl, iteF ?_⟩
      have hduG := g02 _ _ hdu3
      refine ⟨_, rfl, _, rfl, _, _, .lst (SqL.of hfo) (onesD_dp hc2 fun i v e => ?_), .lst (SqL.of hduG) (onesD_dp hN3.1 fun i v e => ?_), (onesD_shp _).ok, (onesD_shp _).ok, _, rfl, ?_⟩
      · obtain ⟨b, x, e1, e2, e3, e4⟩ := hO2 i v e
        exact ⟨b, x, e1, e2, (off_some e3).2⟩
      · obtain ⟨b, x, e1, e2, e3, e4⟩ := hN3.2 i v e
        exact ⟨b, x, e1, e2, g02 _ _ (off_some e3).2⟩
      rw [show PyData.eqv (.list ((st.ahead song).map fun x => .list [.int x])) (.list ((st.ahead song).map fun x => .list [.int x])) = true from eqv_self (onesD_shp _)]
      refine iteF ?_
      have g01 := g.trans g1
      refine ⟨_, rfl, fo, rfl, ⟨_, SqL.of hfo⟩, for_list (K := K) (a := fo) (xs := cs2) (fun j σ H' => ∃ (x11 : Option V), σ = [some (.int many), some (.ref l), some (.int song), some (.ref dl), some (.ref p), some (.ref d), some (.ref du), some (.int (st.within song)), some (.int (0 + (i : Int))), some (.int (st.within song)), some (.ref fo), x11, none, none, none] ∧ Same G1 H' ∧ H' fo = some (.lst cs2) ∧
        ∀ v ∈ cs2, ∃ b xs, v = V.ref b ∧ H' b = some (.lst xs) ∧ G1 b = none ∧ xs.length ≤ 1 + j ∧ b ≠ fo) ?_ ?_ ?_ ?_⟩
      · refine ⟨_, rfl, g2, hfo, fun v hv => ?_⟩
        obtain ⟨k, hk⟩ := List.getElem?_of_mem hv
        obtain ⟨b, x, e1, e2, e3, e4⟩ := hO2 k v hk
        exact ⟨b, _, e2, (off_some e3).2, e4, Nat.le_refl _, fun z => (off_some e3).1 (by rw [z]; simp)⟩
      · rintro j σ W _ ⟨_, _, _, h, _⟩
        exact SqL.of h
      · rintro j v σ W hv ⟨x11, rfl, gw, hw, hall⟩
        have hj : j < cs2.length := (List.getElem?_eq_some_iff.mp hv).1
        obtain ⟨b, xs, rfl, hb, nb, hxl, nbf⟩ := hall v (List.mem_of_getElem? hv)
        refine ⟨_, rfl, .inl ⟨rfl, _, SqL.of hb⟩, b, _, _, rfl, rfl, hb, lt_line (by omega), ?_⟩
        refine to_put fun W2 f2 hb2 => ?_
        refine ⟨_, rfl, f2.back gw (fun x hx => by rw [List.mem_singleton.mp hx]; exact nb), f2.one nbf.symm hw, fun v hv => ?_⟩
        obtain ⟨b', xs', e1, e2, e3, e4, e5⟩ := hall v hv
        by_cases z : b' = b
        · exact ⟨b, _, by rw [e1, z], hb2, nb, by rw [List.length_append, List.length_singleton]; omega, nbf⟩
        · exact ⟨b', xs', e1, f2.one z e2, e3, by omega, e5⟩
      · rintro σ W ⟨x11, rfl, gw, hw, hall⟩
        refine ⟨_, rfl, .inl ⟨rfl, _, SqL.of hw⟩, by show 1 ≤ sizeLine; decide, fun u nu => ?_⟩
        refine to_new nu fun W1 w1 hu => ?_
        refine ⟨fo, _, _, rfl, rfl, w1 _ _ hw, lt_line (by omega), ?_⟩
        refine to_put fun W2 f2 hf2 => ?_
        exact ⟨_, _, _, _, rfl, g01.trans (f2.back (gw.trans w1) (fun x hx => by rw [List.mem_singleton.mp hx]; exact nfo))⟩
    rintro σ H4 ⟨x8, x9, x10, x11, rfl, s4⟩
    have s24 := s3.trans s4
    have s14 := s2.trans s24
    have tw4 := tw.mono s14
    have hN4 : ∀ (i : Nat) v, csd[i]? = some v → ∃ b x, (st.ahead song)[i]? = some x ∧ v = .ref b ∧ H4 b = some (.lst [V.int x]) ∧ H1 b = none := fun i v e => by
      obtain ⟨b, x, e1, e2, e3, e4⟩ := hN3.2 i v e
      exact ⟨b, x, e1, e2, s4 _ _ (off_some e3).2, e4⟩
    have hdu4 := s4 _ _ hdu3
    have duP : du ∉ own p A' := fun z => new_out tw.ev.dom ndu (tw.ev.sub _ z)
    have twS := tw.ev.sub
    have ahl : (st.ahead song).length ≤ 24 - st.rounds.length := by unfold EvS.ahead; rw [List.length_take]; omega
    have hcl := hN3.1
    refine ⟨_, rfl, du, rfl, ⟨_, SqL.of hdu4⟩, for_list (K := K) (a := du) (xs := csd) (fun i σ H' => ∃ (x11 : Option V), σ = [some (.int many), some (.ref l), some (.int song), some (.ref dl), some (.ref p), some (.ref d), some (.ref du), some (.int (st.within song)), x8, x9, x10, x11, none, none, none] ∧
      Fra (own p A') H4 H' ∧ Ev K (own p A' ++ own d B) H' p A' (wishAll st ((st.ahead song).take i))) ?_ ?_ ?_ ?_⟩
    · exact ⟨_, rfl, Fra.refl _ _, tw4.ev⟩
    · rintro i σ G _ ⟨_, _, f, _⟩
      exact SqL.of (f _ _ duP hdu4)
    · rintro i v σ G hv ⟨x11', rfl, f, ev⟩
      obtain ⟨b, x, hx, rfl, hb, nb⟩ := hN4 i v hv
      have hi : i < (st.ahead song).length := (List.getElem?_eq_some_iff.mp hx).1
      have bP : b ∉ own p A' := fun z => new_out tw.ev.dom nb (twS _ z)
      have tl : ((st.ahead song).take i).length = i := by rw [List.length_take]; omega
      obtain ⟨w1, w2, w3⟩ := wishAll_len ((st.ahead song).take i) st
      rw [tl] at w1 w3
      have okW : EvOk (wishAll st ((st.ahead song).take i)) := wishAll_ok ok (by rw [tl]; omega)
      have hxin := moreA_in (List.mem_of_mem_take (show x ∈ st.ahead song from List.mem_of_getElem? hx))
      obtain ⟨dx, hp⟩ := ev.pp
      refine ⟨_, rfl, p, dx, _, rfl, hp, evF_no _ _ (by decide +kernel), _, rfl, _, p, b, A', _, [x], rfl, ev, okW, by omega, SqL.of (by rw [off_out bP]; exact f _ _ bP hb), areS_of (by simp) (by simp) (fun y hy => by rw [List.mem_singleton.mp hy, w2]; exact hxin) rfl, by omega, fun G1 u f1 ev1 nu hu => ?_⟩
      refine ⟨_, rfl, f.trans f1, ?_⟩
      rw [List.take_add_one, hx]
      show Ev K _ G1 p A' (wishAll st ((st.ahead song).take i ++ [x]))
      rw [wishAll_snoc]
      exact ev1
    rintro σ H5 ⟨x11', rfl, f5, ev5⟩
    rw [hcl, List.take_length] at ev5
    obtain ⟨hps, okW, hsW⟩ := ahead_worst ok hsw
    obtain ⟨_, _, w3⟩ := wishAll_len (st.ahead song) st
    refine ⟨_, rfl, _, rfl, _, p, A', _, song, rfl, ev5, okW, by omega, hsW, fun H6 f6 => ?_⟩
    have hw0 : (((wishAll st (st.ahead song)).pos song : Nat) : Int) + 1 = st.within song := by
      rw [hps]
      unfold EvS.within
      rw [queue_pos ok hsw]
      omega
    rw [hw0]
    have s06 : Same H H6 := (f5.trans f6).back (s1.trans s14) (fun x hx => fr1 x (List.mem_append_left _ hx))
    refine ⟨_, rfl, rfl, _, rfl, ?_⟩
    rw [decide_eq_true rfl]
    refine iteF ?_
    refine ⟨_, rfl, _, rfl, l, many, ds, dds, rfl, m1, m6, s06 _ _ hl, hds.mono s06, d63, fun t2 p2 d2 A2 B2 H7 s7 ht2 fr2 tw2' t632 => ?_⟩
    rw [hst] at tw2' t632
    refine ⟨t2, _, rfl, SqT.of ht2, rfl, _, _, rfl, _, _, rfl, rfl, ?_⟩
    have s07 := s06.trans s7
    have frH : ∀ x ∈ own p2 A2 ++ own d2 B2, H x = none := fun x hx => s06.free (fr2 x hx)
    have hW49 := hW24
    have wp := within_pos ok hsw
    generalize hmost : st.within song = most at *
    refine ⟨_, rfl, _, _, rfl, rfl, _, _, rfl, ⟨by decide, by decide, by omega, by omega⟩, for_range (lo := 1) (fun i σ H' => ∃ (st' : EvS) (y11 y13 y14 : Option V), σ = [some (.int many), some (.ref l), some (.int song), some (.ref dl), some (.ref p), some (.ref d2), some (.ref du), some (.int most), x8, x9, x10, y11, some (.ref p2), y13, y14] ∧
      Same H H' ∧ Two K H' p2 d2 A2 B2 many st' ∧ song ∈ st'.waiting ∧ st'.within song + i ≤ most ∧ st'.tale.length ≤ 63 + st'.rounds.length + i) ?_ ?_ ?_⟩
    · exact ⟨st, _, _, _, rfl, s07, tw2', hsw, by omega, by omega⟩
    · rintro i σ G hi ⟨st', y11, y13, y14, rfl, g, twG, hsG, hwG, htG⟩
      have hi49 : i < 60 := by have hi : i < (most + 1 - 1).toNat := hi; omega
      refine ⟨_, rfl, _, rfl, _, _, rfl, rfl, mulS (.inl (by decide)), _, rfl, _, rfl, _, _, rfl, rfl, mulS (.inl (by decide)), _, _, rfl, rfl, _, rfl, dl, _, rfl, SqL.of (g _ _ hdl), fun sl nsl => ?_⟩
      generalize hcut : cutV vs2 _ _ = cv
      have hcm : ∀ v ∈ cv, v ∈ vs2 := fun v hv => by
        rw [← hcut] at hv
        exact List.mem_of_mem_drop (List.mem_of_mem_take hv)
      refine to_new nsl fun G1 g1 hsl => ?_
      have slS : sl ∉ own p2 A2 ++ own d2 B2 := new_out twG.ev.dom nsl
      refine ⟨sl, rfl, ⟨_, SqL.of hsl⟩, for_list (K := K) (a := sl) (xs := cv) (fun j σ H' => ∃ (st2 : EvS) (y11 y14 : Option V), σ = [some (.int many), some (.ref l), some (.int song), some (.ref dl), some (.ref p), some (.ref d2), some (.ref du), some (.int most), x8, x9, x10, y11, some (.ref p2), some (.int (1 + (i : Int))), y14] ∧
        Same H H' ∧ H' sl = some (.lst cv) ∧ Two K H' p2 d2 A2 B2 many st2 ∧ song ∈ st2.waiting ∧ st2.within song + i ≤ most ∧ st2.tale.length ≤ 63 + st2.rounds.length + i) ?_ ?_ ?_ ?_⟩
      · exact ⟨st', _, _, rfl, g.trans g1, hsl, twG.mono g1, hsG, hwG, htG⟩
      · rintro j σ W _ ⟨_, _, _, _, _, h, _⟩
        exact SqL.of h
      · rintro j v σ W hv ⟨st2, z11, z14, rfl, gw, hw, twW, hsW2, hwW, htW⟩
        obtain ⟨k, hk⟩ := List.getElem?_of_mem (hcm v (List.mem_of_getElem? hv))
        obtain ⟨dd, _, hda0, hdo⟩ := hd2.2 k v hk
        have hdo2 : DeedOk st2.last.length dd := by rw [twW.la]; exact hdo
        have ev := twW.ev
        have ls := twW.ls
        have okW2 := twW.ok
        have r242 := okW2.r24
        have hlt : st2.tale.length < 900 := by omega
        obtain ⟨dx, hp⟩ := ev.pp
        obtain ⟨cs, c, hq⟩ := ls.cell
        cases v with
        | ref tt =>
          cases dd with
          | wish ss =>
            obtain ⟨b, ht0, hb0⟩ := hda0
            have bS : b ∉ own p2 A2 ++ own d2 B2 := fun z => by rw [frH b z] at hb0; cases hb0
            refine ⟨tt, _, rfl, SqT.of (gw _ _ ht0), rfl, _, _, rfl, _, _, rfl, rfl, ?_⟩
            refine ⟨_, rfl, rfl, _, rfl, ?_⟩
            rw [decide_eq_true rfl]
            refine iteT ⟨_, rfl, d2, _, rfl, c.gRounds, B2.ro, _, rfl, .inl (SqL.of c.ro), _, _, rfl, rfl, _, rfl, ?_⟩
            rw [List.length_map]
            by_cases h24 : st2.rounds.length = 24
            · rw [decide_eq_false (by omega)]
              exact iteF ⟨st2, _, _, rfl, gw, hw, twW, hsW2, hwW, htW⟩
            · rw [decide_eq_true (by omega)]
              have bd : b ∉ own d2 B2 := fun z => bS (List.mem_append_right _ z)
              have bp : b ∉ own p2 A2 := fun z => bS (List.mem_append_left _ z)
              refine iteT ⟨_, rfl, _, rfl, _, d2, b, B2, st2, ss, rfl, ls, okW2, hlt, SqL.of (by rw [off_out bd]; exact gw _ _ hb0), hdo2, by omega, fun W1 u f1 ls1 nu hu => ?_⟩
              have ev1 := ev.fra f1 ls.sub ls1.dom twW.dj.symm
              obtain ⟨dx1, hp1⟩ := ev1.pp
              refine ⟨_, rfl, p2, dx1, _, rfl, hp1, evF_no _ _ (by decide +kernel), _, rfl, _, p2, b, A2, st2, ss, rfl, ev1, okW2, hlt, SqL.of (by rw [off_out bp]; exact f1 _ _ bd (gw _ _ hb0)), hdo2, by omega, fun W2 u2 f2 ev2 nu2 hu2 => ?_⟩
              have ls2 := ls1.fra f2 ev.sub ev2.dom twW.dj
              have fA : Fra (own p2 A2 ++ own d2 B2) W W2 := (f1.mono ls.sub).trans (f2.mono ev.sub)
              obtain ⟨t1, t3, tin, _⟩ := areS_len hdo2
              have ssn : ss ≠ [] := fun e => by rw [e] at t1; simp at t1
              have ok3 : EvOk (st2.wish ss) := okW2.wish (by omega) t3
              have hle := wish_within okW2 ok3 (by omega) tin ssn hsW2
              exact ⟨st2.wish ss, _, _, rfl, fA.back gw frH, fA _ _ slS hw, ⟨ev2, ls2, twW.dj, ok3, twW.eb.wish tin ssn, twW.gb.wish okW2 ssn, by rw [wish_ll]; exact twW.la⟩, wish_in hsW2, by omega, by rw [wish_rl]; show (st2.tale ++ [_]).length ≤ _; rw [List.length_append, List.length_singleton]; omega⟩
          | sing =>
            have ht0 : H tt = _ := hda0
            refine ⟨tt, _, rfl, SqT.of (gw _ _ ht0), rfl, _, _, rfl, _, _, rfl, rfl, ?_⟩
            refine ⟨_, rfl, rfl, _, rfl, ?_⟩
            rw [nW1]
            exact iteF (iteF ⟨st2, _, _, rfl, gw, hw, twW, hsW2, hwW, htW⟩)
          | out n =>
            have ht0 : H tt = _ := hda0
            refine ⟨tt, _, rfl, SqT.of (gw _ _ ht0), rfl, _, _, rfl, _, _, rfl, rfl, ?_⟩
            refine ⟨_, rfl, rfl, _, rfl, ?_⟩
            rw [nW2]
            exact iteF (iteF ⟨st2, _, _, rfl, gw, hw, twW, hsW2, hwW, htW⟩)
        | _ => exact hda0.elim
      · rintro σ W ⟨st2, z11, z14, rfl, gw, hw, twW, hsW2, hwW, htW⟩
        have okW2 := twW.ok
        have r242 := okW2.r24
        obtain ⟨dx, hp⟩ := twW.ev.pp
        refine ⟨_, rfl, p2, dx, _, rfl, hp, evF_no _ _ (by decide +kernel), _, p2, A2, st2, rfl, twW.ev, okW2, by omega, fun W1 f1 ev1 => ?_⟩
        by_cases h0 : st2.pos song = 0
        · rw [next_zero okW2 hsW2 h0]
          refine ⟨_, rfl, _, _, dp_opt _, .int song, (shp_optD _).ok, (shp_int (k := 0) _).ok, _, rfl, ?_⟩
          rw [eqv_int, decide_eq_true rfl]
          refine iteT (q _ ?_)
          exact (f1.mono twW.ev.sub).back gw frH
        · obtain ⟨x, en, ne, hpos, hw2⟩ := next_pos okW2 hsW2 h0
          have hlt := sing_within okW2 twW.gb hsW2 h0
          rw [en]
          refine ⟨_, rfl, _, _, dp_opt _, .int song, (shp_optD _).ok, (shp_int (k := 0) _).ok, _, rfl, ?_⟩
          rw [eqv_int, decide_eq_false ne]
          have ls1 := twW.ls.fra f1 twW.ev.sub ev1.dom twW.dj
          refine iteF ⟨_, rfl, _, d2, B2, st2, rfl, ls1, okW2, by omega, fun W2 f2 ls2 => ?_⟩
          have ev2 := ev1.fra f2 twW.ls.sub ls2.dom twW.dj.symm
          have fA : Fra (own p2 A2 ++ own d2 B2) W W2 := (f1.mono twW.ev.sub).trans (f2.mono twW.ls.sub)
          have tl1 := sing_tale st2
          exact ⟨st2.sing, _, _, _, rfl, fA.back gw frH, ⟨ev2, ls2, twW.dj, okW2.sing, twW.eb.sing okW2, twW.gb.sing, by rw [EvS.sing_last]; exact twW.la⟩, hw2, by omega, by rw [sing_rnds]; omega⟩
    · rintro σ G ⟨st', y11, y13, y14, rfl, g, twG, hsG, hwG, htG⟩
      have := within_pos twG.ok hsG
      have hwG : st'.within song + ((most + 1 - 1).toNat : Nat) ≤ most := hwG
      omega
end
end Song

/-! ### SlS: xs[::c] of a list -/
namespace Song
open PySem L2
open PyProof PyProof.Rows PySem.W PySem.Calls
/-- xs[::c], c above 0: a new list of things of xs -/
def tStepL (K : PySem.W.Frag) (te ts : TE) : TE := fun σ H Q => te σ H fun x H1 => tPart ts σ H1 fun o H2 => ∃ (a : Addr) (xs : List V) (k : Int), x = .ref a ∧ o = some k ∧ 0 < k ∧ SqL K H2 a xs ∧ ∀ p ys, H2 p = none → (∀ v ∈ ys, v ∈ xs) → ys.length ≤ xs.length → Q (.ref p) (upd H2 p (.lst ys))
theorem vals_pick {xs : List V} {its : List Value} (r : Vals xs its) : ∀ js : List Nat, Vals (js.filterMap (xs[·]?)) (js.filterMap (its.toArray[·]?))
  | [] => .nil
  | j :: js => by
    have ih := vals_pick r js
    cases e : xs[j]? with
    | none =>
      have e2 : its.toArray[j]? = none := by rw [List.getElem?_toArray]; exact r.none_of e
      rw [List.filterMap_cons_none e, List.filterMap_cons_none e2]
      exact ih
    | some x =>
      obtain ⟨u, e2, rx⟩ := r.get e
      have e2 : its.toArray[j]? = some u := by rw [List.getElem?_toArray]; exact e2
      rw [List.filterMap_cons_some e, List.filterMap_cons_some e2]
      exact .cons rx ih
section
variable {X : Cx}
theorem pe_slstep {e se : Expr} {te ts : TE} {p3 pos : Pos} (he : PE X e te) (hse : PE X se ts) : PE X (.Subscript e (.Slice none none (some se) p3) pos) (tStepL X.K te ts) := by
  refine ⟨fun pins s σ H Q I h => ?_⟩
  refine Subscript_ (thn (he.run pins s σ H _ I h) fun v s1 ⟨x, H1, I1, r1, q1⟩ => ?_)
  have hst : PO X (some se) (tPart ts) := po_some hse
  refine wpAny_Slice (thn (po_none.run pins s1 σ H1 (fun o H2 => o = none ∧ H2 = H1) I1 ⟨rfl, rfl⟩) fun vl s2 ⟨l, H2, I2, pl, el, e2⟩ => ?_)
  subst el e2
  refine thn (po_none.run pins s2 σ H2 (fun o H3 => o = none ∧ H3 = H2) I2 ⟨rfl, rfl⟩) fun vu s3 ⟨u, H3, I3, pu, eu, e3⟩ => ?_
  subst eu e3
  refine thn (hst.run pins s3 σ H3 (fun o H4 => ∃ (a : Addr) (xs : List V) (k : Int), x = .ref a ∧ o = some k ∧ 0 < k ∧ SqL X.K H4 a xs ∧ ∀ p ys, H4 p = none → (∀ v ∈ ys, v ∈ xs) → ys.length ≤ xs.length → Q (.ref p) (upd H4 p (.lst ys))) I3 ?_) fun vs s4 ⟨o, H4, I4, ps, a, xs, k, ex, eo, k0, hx, q⟩ => ?_
  · exact q1
  subst ex eo
  cases r1
  have I5 : Inv X pins σ H4 { s4 with heap := s4.heap.push { cls := .type "slice", data := .fields #[vl, vu, vs] } } := I4.kept (t' := s4.toks) fun b ob q => Heap.get?_push_of_some _ q
  obtain ⟨its, r, ht, hz⟩ := I5.list hx
  have hlen := r.length
  show wpAny (model X.prog X.w) X.A (subscriptTail e (.Slice none none (some se) p3) (.ref a) (.ref s4.heap.objs.size)) (EP X pins σ Q) X.xe { s4 with heap := s4.heap.push { cls := .type "slice", data := .fields #[vl, vu, vs] } }
  refine tail_any (ops := [.ref a, .ref s4.heap.objs.size]) ht.isList.typeIs (PySem.slot_list_getitem.lookup) ?_ (by with_unfolding_all rfl)
  refine wpAny_getItem_list_slice ht.isList (Heap.IsSliceOf.new _ vl vu vs) pl pu ps (fun z => by injection z; omega) ?_ (by rw [List.size_toArray]; omega)
  have hsz := slicePick_size_le its.toArray none none (some k)
  unfold slicePick at hsz ⊢
  generalize sliceRange _ _ _ = js at hsz ⊢
  have rv := vals_pick r js
  have rl := rv.length
  rw [List.size_toArray, List.size_toArray] at hsz
  refine ⟨.ref _, _, I5.laid (t' := s4.toks) (o := .lst (js.filterMap (xs[·]?))) (fun b ob q => Heap.get?_push_of_some _ q) (Nat.le_refl _) ?_, rfl, q _ _ (I5.hok.fresh (Nat.le_refl _)) (fun v hv => ?_) (by omega)⟩
  · exact ⟨by omega, _, 0, rv, Heap.get?_push_size _ rfl⟩
  · obtain ⟨j, _, hj⟩ := List.mem_filterMap.mp hv
    exact List.mem_of_getElem? hj
end
end Song

/-! ### L02: the law k02 -/
namespace Song
open PySem L2
section
variable {P : Program} {w : World} {K : PySem.W.Frag} {mg : Str → Option Value} {base : Heap}
theorem sc_law : FnScope ["_law_script", "_law_many_here", "_law_deeds_here", "_law_drawn", "_law_waits", "_law_song", "_law_full", "_law_turn", "_law_evening", "_law_singers"] ["_law_script"] (defScope s_law) := ⟨rfl, rfl, rfl, by decide +kernel, rfl, by decide +kernel, by decide +kernel⟩
theorem ok_law0 {fd : FuncData} (T : Tx K mg) (F : FnP K "law" "law" s_law (He.ga K "law") fd) : FnOk P w K mg base CX0 7 (He.ga K "law") fd ["_law_script"] (spLaw K) := by
  refine F.ok (CX := CX0) sc_law (fun vs H Q E h => ?_) (fun cdv A outer s H vs Q E hr h => ?_)
  · obtain ⟨a, ns, rfl, _⟩ := h; rfl
  · obtain ⟨a, ns, rfl, hs, hb, q⟩ := h
    refine ⟨_, PSs.nox (pss_cons (ps_set (i := 0) sc_law.nd rfl (by first | exact Or.inl rfl | exact Or.inr rfl) (pe_slice (show SlR _ (rSlL K) from sl_list) (pv 0) po_none (po_some pe_int)))
      (pss_cons (ps_set (i := 1) sc_law.nd rfl (by first | exact Or.inl rfl | exact Or.inr rfl) (pe_fn (fn__law_many T) (hr.mono (by first | decide | omega)) (by rfl) (pa_cons (pv 0) pa_nil)))
      (pss_cons (ps_par (i := 2) (j := 3) (by rfl) sc_law.nd rfl rfl (by decide) rfl rfl (pa_cons (pe_fn (fn__law_deeds T) (hr.mono (by first | decide | omega)) (by rfl) (pa_cons (pv 0) (pa_cons pe_int (pa_cons pe_int (pa_cons (pv 1) pa_nil))))) (pa_cons (pe_fn (fn__law_deeds T) (hr.mono (by first | decide | omega)) (by rfl) (pa_cons (pv 0) (pa_cons pe_int (pa_cons pe_int (pa_cons (pv 1) pa_nil))))) pa_nil)) (by rfl))
      (pss_cons (ps_set (i := 4) sc_law.nd rfl (by first | exact Or.inl rfl | exact Or.inr rfl) (pe_fn (fn__law_queue T) (hr.mono (by first | decide | omega)) (by rfl) (pa_cons (pe_ix (show IxR _ (rIxT K) from ix_tup) (pe_fn (fn__law_began T) (hr.mono (by first | decide | omega)) (by rfl) (pa_cons (pv 1) (pa_cons (pv 2) pa_nil))) pe_int (fun _ _ => rfl)) pa_nil)))
      (pss_cons (ps_for PassesOwn.never rfl (show PI _ _ _ (iList K _) from pi_list (pe_slstep (pv 4) (pe_op op_add pe_int (pe_op op_fdivW (pe_callB (show CallR _ _ (rLenQ K) from call_len_seq) (by rfl) T.len (by decide +kernel) (pa_cons (pv 4) pa_nil)) pe_int)))) (pg_name (i := 5) sc_law.nd rfl (by first | exact Or.inl rfl | exact Or.inr rfl))
      (pss_one (ps_if (pt_not (pt_val (pe_fn (fn__law_right T) (hr.mono (by first | decide | omega)) (by rfl) (pa_cons (pv 1) (pa_cons (pv 2) (pa_cons (pv 5) (pa_cons (pv 3) pa_nil))))))) (pss_one (ps_ret pe_bl)) pss_nil)))
      (pss_cons (ps_set (i := 6) sc_law.nd rfl (by first | exact Or.inl rfl | exact Or.inr rfl) (pe_mk (mk_Evening T) (hr.mono (by first | decide | omega)) (by rfl) (pa_cons pe_int pa_nil)))
      (pss_cons (ps_for PassesOwn.never rfl (pi_range1 (by rfl) T.range (pa_cons pe_int pa_nil)) (pg_name (i := 7) sc_law.nd rfl (by first | exact Or.inl rfl | exact Or.inr rfl))
      (pss_one (ps_expr (pe_me (me_Evening_wish T) (hr.mono (by first | decide | omega)) (pv 6) (pa_cons (pe_lst (pa_cons pe_int pa_nil)) pa_nil)))))
      (pss_cons (ps_if (PW.pt (pw_or (pt_cmpR op_ne (pe_me (me_Evening_within T) (hr.mono (by first | decide | omega)) (pv 6) (pa_cons pe_int pa_nil)) pe_int (nomark _)) (pw_or1 (pt_cmpR (show OpR _ _ (rNeD K) from op_neD hr.units) (pe_me (me_Evening_worst T) (hr.mono (by first | decide | omega)) (pv 6) (pa_cons pe_int pa_nil)) (pe_op op_cat (pe_op op_rep (pe_lst (pa_cons (pe_lst (pa_cons pe_int pa_nil)) pa_nil)) pe_int) (pe_op op_rep (pe_lst (pa_cons (pe_lst (pa_cons pe_int pa_nil)) pa_nil)) pe_int)) (nomark _))))) (pss_one (ps_ret pe_bl)) pss_nil)
      (pss_cons (ps_set (i := 8) sc_law.nd rfl (by first | exact Or.inl rfl | exact Or.inr rfl) (pe_mk (mk_Evening T) (hr.mono (by first | decide | omega)) (by rfl) (pa_cons pe_int pa_nil)))
      (pss_cons (ps_for PassesOwn.never rfl (show PI _ _ _ (iTup K _) from pi_tup (pe_tup (pa_cons (pe_lst (pa_cons pe_int pa_nil)) (pa_cons (pe_lst (pa_cons pe_int pa_nil)) (pa_cons (pe_lst (pa_cons pe_int pa_nil)) pa_nil))))) (pg_name (i := 9) sc_law.nd rfl (by first | exact Or.inl rfl | exact Or.inr rfl))
      (pss_one (ps_expr (pe_me (me_Evening_wish T) (hr.mono (by first | decide | omega)) (pv 8) (pa_cons (pv 9) pa_nil)))))
      (pss_cons (ps_if (PW.pt (pw_or (pt_cmpR op_ne (pe_me (me_Evening_within T) (hr.mono (by first | decide | omega)) (pv 8) (pa_cons pe_int pa_nil)) pe_int (nomark _)) (pw_or1 (pt_cmpR (show OpR _ _ (rNeD K) from op_neD hr.units) (pe_me (me_Evening_worst T) (hr.mono (by first | decide | omega)) (pv 8) (pa_cons pe_int pa_nil)) (pe_lst (pa_cons (pe_lst (pa_cons pe_int pa_nil)) (pa_cons (pe_lst (pa_cons pe_int pa_nil)) (pa_cons (pe_lst (pa_cons pe_int pa_nil)) (pa_cons (pe_lst (pa_cons pe_int pa_nil)) pa_nil))))) (nomark _))))) (pss_one (ps_ret pe_bl)) pss_nil)
      (pss_one (ps_ret (pe_and (pe_cmpR op_eq (pe_me (me_Evening_within T) (hr.mono (by first | decide | omega)) (pv 8) (pa_cons pe_int pa_nil)) pe_int (nomark _)) (pe_one (pe_cmpR (show OpR _ _ (rEqD K) from op_eqD hr.units) (pe_me (me_Evening_worst T) (hr.mono (by first | decide | omega)) (pv 8) (pa_cons pe_int pa_nil)) (pe_lst (pa_cons (pe_lst (pa_cons pe_int pa_nil)) (pa_cons (pe_lst (pa_cons pe_int pa_nil)) pa_nil))) (nomark _))))))))))))))))), ?_⟩
    refine ⟨_, rfl, _, rfl, a, _, rfl, hs, fun z nz => ?_⟩
    rw [cut63 hb.1]
    refine to_new nz fun H1 s1 hz => ?_
    refine ⟨_, rfl, z, ns, rfl, SqL.of hz, hb, fun H2 s2 => ?_⟩
    obtain ⟨m1, m6⟩ := lawMany_in ns
    generalize hm : lawMany ns = many at *
    refine ⟨_, rfl, _, rfl, [], z, ns, 0, 40, many, rfl, SqL.of (s2 _ _ hz), hb, by decide, by decide, m1, m6, (fun x hx => by cases hx), fun l H3 ds nl s3 hl3 hds3 _ d40 => ?_⟩
    refine ⟨_, rfl, _, rfl, [], z, ns, 20, 63, many, rfl, SqL.of (s3 _ _ (s2 _ _ hz)), hb, by decide, by decide, m1, m6, (fun x hx => by cases hx), fun dl H4 vs2 ndl s4 hdl4 hds4 _ _ => ?_⟩
    refine ⟨_, _, rfl, ?_⟩
    have hd40 : ds.length ≤ 63 := by omega
    obtain ⟨dds, hdd⟩ := Deeds.each (Deeds.mono (off_le _ _) hds3)
    obtain ⟨dd2, hdd2⟩ := Deeds.each (Deeds.mono (off_le _ _) hds4)
    have hl4 := s4 _ _ hl3
    have hdd4 := hdd.mono s4
    refine ⟨_, rfl, _, rfl, l, many, ds, dds, rfl, m1, m6, hl4, hdd4, hd40, fun t p d A' B H5 s5 ht fr tw _ => ?_⟩
    refine ⟨t, _, _, _, rfl, rfl, SqT.of ht, atI_nat (j := 1) rfl, _, d, B, _, rfl, tw.ls, tw.ok, fun wl H6 nwl s6 hwl => ?_⟩
    have w24 := tw.ok.w24
    have ql : (began many dds).queue.length = (began many dds).waiting.length := inTurn_len _ _
    refine ⟨_, rfl, _, rfl, wl, _, rfl, .inl (SqL.of hwl), ?_⟩
    rw [List.length_map]
    refine ⟨_, _, rfl, rfl, ⟨by decide, by decide⟩, _, _, rfl, rfl, _, rfl, wl, _, _, rfl, rfl, by omega, SqL.of hwl, fun c ys nc hys hyl => ?_⟩
    refine to_new nc fun H7 s7 hc => ?_
    have s47 := s5.trans (s6.trans s7)
    refine ⟨c, rfl, ⟨_, SqL.of hc⟩, for_list (K := K) (a := c) (xs := ys) (fun i σ H' => ∃ (x5 : Option V), σ = [some (.ref z), some (.int many), some (.ref l), some (.ref dl), some (.ref wl), x5, none, none, none, none] ∧ Same H7 H') ?_ ?_ ?_ ?_⟩
    · exact ⟨_, rfl, Same.refl _⟩
    · rintro i σ G _ ⟨_, _, g⟩
      exact SqL.of (g _ _ hc)
    · rintro i v σ G hv ⟨x5, rfl, g⟩
      obtain ⟨song, hsq, rfl⟩ := List.mem_map.mp (hys v (List.mem_of_getElem? hv))
      have g4 := s47.trans g
      refine ⟨_, rfl, _, rfl, _, rfl, _, rfl, l, dl, many, song, ds, vs2, dds, dd2, rfl, m1, m6, g4 _ _ hl4, hdd4.mono g4, hd40, g4 _ _ hdl4, hdd2.mono g4, queue_mem.mp hsq, fun G1 g1 => ?_⟩
      exact ⟨_, rfl, iteF ⟨_, rfl, g.trans g1⟩⟩
    rintro σ H8 ⟨x5, rfl, s8⟩
    intro x dy nx ndy _
    refine ⟨x, dy, 6, rfl, by decide, by decide, upd_same, fun G0 X g0 cc0 _ _ _ _ => ⟨rfl, ?_⟩⟩
    have e0 : Ev K (own x X) G0 x X (evNew 6) := Ev.made cc0
    refine ⟨10, rfl, by decide, by decide, for_range (lo := 0) (fun i σ H' => ∃ (x7 : Option V), σ = [some (.ref z), some (.int many), some (.ref l), some (.ref dl), some (.ref wl), x5, some (.ref x), x7, none, none] ∧
      Ev K (own x X) H' x X (wishAll (evNew 6) (List.replicate i 0)) ∧ EvOk (wishAll (evNew 6) (List.replicate i 0)) ∧ EvB (wishAll (evNew 6) (List.replicate i 0))) ?_ ?_ ?_⟩
    · exact ⟨_, rfl, e0, evNew_ok (by decide) (by decide), EvB.new 6⟩
    · rintro i σ G hi ⟨x7, rfl, ev, ok, eb⟩
      have hi : i < 10 := hi
      obtain ⟨w1, w2, w3⟩ := wishAll_len (List.replicate i 0) (evNew 6)
      rw [List.length_replicate] at w1 w3
      have w1 : (wishAll (evNew 6) (List.replicate i 0)).rounds.length = 0 + i := w1
      have w3 : (wishAll (evNew 6) (List.replicate i 0)).tale.length = 0 + i := w3
      have w2 : (wishAll (evNew 6) (List.replicate i 0)).last.length = 6 := w2
      obtain ⟨y0, p0⟩ := ev.pp
      refine ⟨_, rfl, x, y0, _, rfl, p0, evF_no _ _ (by decide +kernel), by show 1 ≤ sizeLine; decide, fun b0 n0 => ?_⟩
      refine to_new n0 fun G1 t0 h0 => ?_
      have i0 : InB (wishAll (evNew 6) (List.replicate i 0)).last.length [0] := fun y hy => by rw [List.mem_singleton.mp hy, w2]; decide
      refine ⟨own x X, x, b0, X, _, [0], rfl, ev.mono t0, ok, by omega, SqL.of (by rw [off_out (new_out ev.dom n0)]; exact h0), areS_of (by simp) (by simp) i0 rfl, by omega, fun G2 u1 f1 e1 _ _ => ?_⟩
      refine ⟨_, rfl, ?_⟩
      rw [List.replicate_succ', wishAll_snoc]
      exact ⟨e1, ok.wish (by omega) (by show 1 ≤ 3; decide), eb.wish i0 (by simp)⟩
    rintro σ G ⟨x7, rfl, ev, ok, eb⟩
    have hw9 : (9 : Int) ∈ (wishAll (evNew 6) (List.replicate 10 0)).waiting := by decide +kernel
    have ev : Ev K (own x X) G x X (wishAll (evNew 6) (List.replicate 10 0)) := ev
    have ok : EvOk (wishAll (evNew 6) (List.replicate 10 0)) := ok
    have eb : EvB (wishAll (evNew 6) (List.replicate 10 0)) := eb
    obtain ⟨y1, p1⟩ := ev.pp
    refine ⟨_, rfl, x, y1, _, rfl, p1, evF_no _ _ (by decide +kernel), own x X, x, X, _, 9, rfl, ev, ok, eb, hw9, fun G1 g1 => ?_⟩
    refine ⟨rfl, _, rfl, ?_⟩
    rw [show decide (V.int ((wishAll (evNew 6) (List.replicate 10 0)).within 9) = V.int 24) = true by decide +kernel]
    refine iteF ⟨_, rfl, x, y1, _, rfl, g1 _ _ p1, evF_no _ _ (by decide +kernel), own x X, x, X, _, 9, rfl, ev.mono g1, ok, eb, hw9, fun fo G2 cs nfo g2 hfo hcl hO => ?_⟩
    refine ⟨by show 1 ≤ sizeLine; decide, fun r1 nr1 => ?_⟩
    refine to_new nr1 fun G3 g3 hr1 => ?_
    refine ⟨by show 1 ≤ sizeLine; decide, fun r2 nr2 => ?_⟩
    refine to_new nr2 fun G4 g4 hr2 => ?_
    refine ⟨r2, 9, _, rfl, rfl, hr2, by decide, by decide, by show 1 * 9 ≤ sizeLine; decide, fun r3 nr3 => ?_⟩
    refine to_new nr3 fun G5 g5 hr3 => ?_
    refine ⟨by show 1 ≤ sizeLine; decide, fun r4 nr4 => ?_⟩
    refine to_new nr4 fun G6 g6 hr4 => ?_
    refine ⟨by show 1 ≤ sizeLine; decide, fun r5 nr5 => ?_⟩
    refine to_new nr5 fun G7 g7 hr5 => ?_
    refine ⟨r5, 5, _, rfl, rfl, hr5, by decide, by decide, by show 1 * 5 ≤ sizeLine; decide, fun r6 nr6 => ?_⟩
    refine to_new nr6 fun G8 g8 hr6 => ?_
    refine ⟨r3, r6, _, _, rfl, rfl, g8 _ _ (g7 _ _ (g6 _ _ hr3)), hr6, by show 9 + 5 ≤ sizeLine; decide, fun r7 nr7 => ?_⟩
    refine to_new nr7 fun G9 g9 hr7 => ?_
    have ha : (wishAll (evNew 6) (List.replicate 10 0)).ahead 9 = [1, 1, 1, 1, 1, 1, 1, 1, 1, 2, 2, 2, 2, 2] := by decide +kernel
    have g29 := g3.trans (g4.trans (g5.trans (g6.trans (g7.trans (g8.trans g9)))))
    have q1 : Dp K G9 (.ref r1) (.list [.int 1]) := dp_ints (ns := [1]) (SqL.of (g9 _ _ (g8 _ _ (g7 _ _ (g6 _ _ (g5 _ _ (g4 _ _ hr1)))))))
    have q2 : Dp K G9 (.ref r4) (.list [.int 2]) := dp_ints (ns := [2]) (SqL.of (g9 _ _ (g8 _ _ (g7 _ _ hr4))))
    have dR : DpAll K G9 [.ref r1, .ref r1, .ref r1, .ref r1, .ref r1, .ref r1, .ref r1, .ref r1, .ref r1, .ref r4, .ref r4, .ref r4, .ref r4, .ref r4] ([1, 1, 1, 1, 1, 1, 1, 1, 1, 2, 2, 2, 2, 2].map fun x => .list [.int x]) :=
      .cons q1 (.cons q1 (.cons q1 (.cons q1 (.cons q1 (.cons q1 (.cons q1 (.cons q1 (.cons q1 (.cons q2 (.cons q2 (.cons q2 (.cons q2 (.cons q2 .nil)))))))))))))
    rw [ha] at hcl hO
    refine ⟨_, _, .lst (SqL.of (g29 _ _ hfo)) (onesD_dp hcl fun i v e => ?_), .lst (SqL.of hr7) dR, (onesD_shp _).ok, (onesD_shp _).ok, _, rfl, ?_⟩
    · obtain ⟨b, x, e1, e2, e3, e4⟩ := hO i v e
      exact ⟨b, x, e1, e2, g29 _ _ (off_some e3).2⟩
    rw [show PyData.eqv (.list (([1, 1, 1, 1, 1, 1, 1, 1, 1, 2, 2, 2, 2, 2] : List Int).map fun x => .list [.int x])) (.list (([1, 1, 1, 1, 1, 1, 1, 1, 1, 2, 2, 2, 2, 2] : List Int).map fun x => .list [.int x])) = true from eqv_self (onesD_shp _)]
    refine iteF ?_
    intro v dv nv ndv _
    refine ⟨v, dv, 3, rfl, by decide, by decide, upd_same, fun J0 Y j0 cc1 _ _ _ _ => ⟨rfl, ?_⟩⟩
    have f0 : Ev K (own v Y) J0 v Y (evNew 3) := Ev.made cc1
    refine ⟨by show 1 ≤ sizeLine; decide, fun k1 nk1 => ?_⟩
    refine to_new nk1 fun J1 j1 hk1 => ?_
    refine ⟨by show 1 ≤ sizeLine; decide, fun k2 nk2 => ?_⟩
    refine to_new nk2 fun J2 j2 hk2 => ?_
    refine ⟨by show 1 ≤ sizeLine; decide, fun k3 nk3 => ?_⟩
    refine to_new nk3 fun J3 j3 hk3 => ?_
    refine ⟨by show 3 ≤ sizeLine; decide, fun k4 nk4 => ?_⟩
    refine to_new nk4 fun J4 j4 hk4 => ?_
    have f4 := f0.mono (j1.trans (j2.trans (j3.trans j4)))
    have a1 := j4 _ _ (j3 _ _ (j2 _ _ hk1))
    have a2 := j4 _ _ (j3 _ _ hk2)
    have a3 := j4 _ _ hk3
    have k1o : k1 ∉ own v Y := new_out f0.dom nk1
    have k2o : k2 ∉ own v Y := new_out f0.dom (j1.free nk2)
    have k3o : k3 ∉ own v Y := new_out f0.dom ((j1.trans j2).free nk3)
    have k4o : k4 ∉ own v Y := new_out f0.dom ((j1.trans (j2.trans j3)).free nk4)
    have hel : ∀ (i : Nat) u, ([V.ref k1, V.ref k2, V.ref k3])[i]? = some u → ∃ b, u = .ref b ∧ b ∉ own v Y ∧ J4 b = some (.lst [V.int 0]) := fun i u e => by
      match i, e with
      | 0, e => exact ⟨k1, (Option.some.inj e).symm, k1o, a1⟩
      | 1, e => exact ⟨k2, (Option.some.inj e).symm, k2o, a2⟩
      | 2, e => exact ⟨k3, (Option.some.inj e).symm, k3o, a3⟩
    refine ⟨k4, rfl, ⟨_, SqT.of hk4⟩, for_tup (K := K) (a := k4) (xs := [V.ref k1, V.ref k2, V.ref k3]) (fun i σ H' => ∃ (x9 : Option V), σ = [some (.ref z), some (.int many), some (.ref l), some (.ref dl), some (.ref wl), x5, some (.ref x), x7, some (.ref v), x9] ∧ Fra (own v Y) J4 H' ∧
      Ev K (own v Y) H' v Y (wishAll (evNew 3) (List.replicate i 0)) ∧ EvOk (wishAll (evNew 3) (List.replicate i 0)) ∧ EvB (wishAll (evNew 3) (List.replicate i 0))) ?_ ?_ ?_ ?_⟩
    · exact ⟨_, rfl, Fra.refl _ _, f4, evNew_ok (by decide) (by decide), EvB.new 3⟩
    · rintro i σ W _ ⟨_, _, f, _⟩
      exact SqT.of (f _ _ k4o hk4)
    · rintro i u σ W hu ⟨x9, rfl, f, ev, ok, eb⟩
      have hi : i < 3 := (List.getElem?_eq_some_iff.mp hu).1
      obtain ⟨b, rfl, bo, hb⟩ := hel i u hu
      obtain ⟨w1, w2, w3⟩ := wishAll_len (List.replicate i 0) (evNew 3)
      rw [List.length_replicate] at w1 w3
      have w1 : (wishAll (evNew 3) (List.replicate i 0)).rounds.length = 0 + i := w1
      have w3 : (wishAll (evNew 3) (List.replicate i 0)).tale.length = 0 + i := w3
      have w2 : (wishAll (evNew 3) (List.replicate i 0)).last.length = 3 := w2
      obtain ⟨y0, p0⟩ := ev.pp
      have i0 : InB (wishAll (evNew 3) (List.replicate i 0)).last.length [0] := fun y hy => by rw [List.mem_singleton.mp hy, w2]; decide
      refine ⟨_, rfl, v, y0, _, rfl, p0, evF_no _ _ (by decide +kernel), _, rfl, own v Y, v, b, Y, _, [0], rfl, ev, ok, by omega, SqL.of (by rw [off_out bo]; exact f _ _ bo hb), areS_of (by simp) (by simp) i0 rfl, by omega, fun W2 u1 f1 e1 _ _ => ?_⟩
      refine ⟨_, rfl, f.trans f1, ?_⟩
      rw [List.replicate_succ', wishAll_snoc]
      exact ⟨e1, ok.wish (by omega) (by show 1 ≤ 3; decide), eb.wish i0 (by simp)⟩
    rintro σ W ⟨x9, rfl, f, ev, ok, eb⟩
    have ev : Ev K (own v Y) W v Y (wishAll (evNew 3) (List.replicate 3 0)) := ev
    have ok : EvOk (wishAll (evNew 3) (List.replicate 3 0)) := ok
    have eb : EvB (wishAll (evNew 3) (List.replicate 3 0)) := eb
    have h2 : (2 : Int) ∈ (wishAll (evNew 3) (List.replicate 3 0)).waiting := by decide +kernel
    have h1 : (1 : Int) ∈ (wishAll (evNew 3) (List.replicate 3 0)).waiting := by decide +kernel
    have h0 : (0 : Int) ∈ (wishAll (evNew 3) (List.replicate 3 0)).waiting := by decide +kernel
    obtain ⟨y1, p1⟩ := ev.pp
    refine ⟨_, rfl, v, y1, _, rfl, p1, evF_no _ _ (by decide +kernel), own v Y, v, Y, _, 2, rfl, ev, ok, eb, h2, fun W1 w1 => ?_⟩
    refine ⟨rfl, _, rfl, ?_⟩
    rw [show decide (V.int ((wishAll (evNew 3) (List.replicate 3 0)).within 2) = V.int 7) = true by decide +kernel]
    refine iteF ⟨_, rfl, v, y1, _, rfl, w1 _ _ p1, evF_no _ _ (by decide +kernel), own v Y, v, Y, _, 2, rfl, ev.mono w1, ok, eb, h2, fun fo2 W2 cs2 nfo2 w2 hfo2 hcl2 hO2 => ?_⟩
    have hb2 : (wishAll (evNew 3) (List.replicate 3 0)).ahead 2 = [1, 1, 2, 2] := by decide +kernel
    have hb1 : (wishAll (evNew 3) (List.replicate 3 0)).ahead 1 = [1, 2] := by decide +kernel
    rw [hb2] at hcl2 hO2
    refine ⟨by show 1 ≤ sizeLine; decide, fun n1 m1 => ?_⟩
    refine to_new m1 fun W3 w3 i1 => ?_
    refine ⟨by show 1 ≤ sizeLine; decide, fun n2 m2 => ?_⟩
    refine to_new m2 fun W4 w4 i2 => ?_
    refine ⟨by show 1 ≤ sizeLine; decide, fun n3 m3 => ?_⟩
    refine to_new m3 fun W5 w5 i3 => ?_
    refine ⟨by show 1 ≤ sizeLine; decide, fun n4 m4 => ?_⟩
    refine to_new m4 fun W6 w6 i4 => ?_
    refine ⟨by show 4 ≤ sizeLine; decide, fun n5 m5 => ?_⟩
    refine to_new m5 fun W7 w7 i5 => ?_
    have w37 := w3.trans (w4.trans (w5.trans (w6.trans w7)))
    have dR2 : DpAll K W7 [.ref n1, .ref n2, .ref n3, .ref n4] (([1, 1, 2, 2] : List Int).map fun x => .list [.int x]) :=
      .cons (dp_ints (ns := [1]) (SqL.of (w7 _ _ (w6 _ _ (w5 _ _ (w4 _ _ i1)))))) (.cons (dp_ints (ns := [1]) (SqL.of (w7 _ _ (w6 _ _ (w5 _ _ i2))))) (.cons (dp_ints (ns := [2]) (SqL.of (w7 _ _ (w6 _ _ i3)))) (.cons (dp_ints (ns := [2]) (SqL.of (w7 _ _ i4))) .nil)))
    refine ⟨_, _, .lst (SqL.of (w37 _ _ hfo2)) (onesD_dp hcl2 fun i v e => ?_), .lst (SqL.of i5) dR2, (onesD_shp _).ok, (onesD_shp _).ok, _, rfl, ?_⟩
    · obtain ⟨b, x, e1, e2, e3, e4⟩ := hO2 i v e
      exact ⟨b, x, e1, e2, w37 _ _ (off_some e3).2⟩
    rw [show PyData.eqv (.list (([1, 1, 2, 2] : List Int).map fun x => .list [.int x])) (.list (([1, 1, 2, 2] : List Int).map fun x => .list [.int x])) = true from eqv_self (onesD_shp _)]
    have w17 := w1.trans (w2.trans w37)
    refine iteF ⟨_, rfl, v, y1, _, rfl, w17 _ _ p1, evF_no _ _ (by decide +kernel), own v Y, v, Y, _, 0, rfl, ev.mono w17, ok, eb, h0, fun W8 w8 => ?_⟩
    refine ⟨rfl, _, rfl, ?_⟩
    rw [show decide (V.int ((wishAll (evNew 3) (List.replicate 3 0)).within 0) = V.int 1) = true by decide +kernel]
    have w18 := w17.trans w8
    refine iteT ⟨_, rfl, v, y1, _, rfl, w18 _ _ p1, evF_no _ _ (by decide +kernel), own v Y, v, Y, _, 1, rfl, ev.mono w18, ok, eb, h1, fun fo3 W9 cs3 nfo3 w9 hfo3 hcl3 hO3 => ?_⟩
    rw [hb1] at hcl3 hO3
    refine ⟨by show 1 ≤ sizeLine; decide, fun v1 b1 => ?_⟩
    refine to_new b1 fun Z1 z1 c1 => ?_
    refine ⟨by show 1 ≤ sizeLine; decide, fun v2 b2 => ?_⟩
    refine to_new b2 fun Z2 z2 c2 => ?_
    refine ⟨by show 2 ≤ sizeLine; decide, fun v3 b3 => ?_⟩
    refine to_new b3 fun Z3 z3 c3 => ?_
    have z13 := z1.trans (z2.trans z3)
    have dR3 : DpAll K Z3 [.ref v1, .ref v2] (([1, 2] : List Int).map fun x => .list [.int x]) :=
      .cons (dp_ints (ns := [1]) (SqL.of (z3 _ _ (z2 _ _ c1)))) (.cons (dp_ints (ns := [2]) (SqL.of (z3 _ _ c2))) .nil)
    refine ⟨_, _, .lst (SqL.of (z13 _ _ hfo3)) (onesD_dp hcl3 fun i v e => ?_), .lst (SqL.of c3) dR3, (onesD_shp _).ok, (onesD_shp _).ok, ?_⟩
    · obtain ⟨b, x, e1, e2, e3, e4⟩ := hO3 i v e
      exact ⟨b, x, e1, e2, z13 _ _ (off_some e3).2⟩
    rw [show PyData.eqv (.list (([1, 2] : List Int).map fun x => .list [.int x])) (.list (([1, 2] : List Int).map fun x => .list [.int x])) = true from eqv_self (onesD_shp _)]
    exact q _
end
end Song

namespace Song
open PySem L2
def fn : List He.DefD := [d_is_whole, d_are_numbers, d_check_many, d_are_singers, d_floor_of, d_round_for, d_in_turn, d_more_ahead, d_Evening___init__, d_Evening_wish, d_Evening_sing, d_Evening_look_at, d_Evening_withdraw, d_Evening_waits, d_Evening_ahead_of, d_Evening_within, d_Evening_worst, d_Evening_tale, d__law_cell_at, d__law_draw, d__law_value, d__law_whole, d__law_many, d__law_deeds, d__law_open, d__law_queue, d__law_wished, d__law_sung, d__law_out, d__law_began, d__law_worst, d__law_turns_till, d__law_right, d_law]
def fa : List He.Fa := [.glo "TurnError", .glo "BadMany", .glo "BadSingers", .glo "BadSong", .glo "TooMany", .int "MOST_SINGERS" 6, .int "MOST_OF_SONG" 3, .int "MOST_SONGS" 24, .glo "is_whole", .glo "are_numbers", .glo "check_many", .glo "are_singers", .glo "floor_of", .glo "round_for", .glo "in_turn", .glo "more_ahead", .glo "Evening", .cls "Evening", .mkr "Evening", .meth "Evening" "wish", .meth "Evening" "sing", .meth "Evening" "look_at", .meth "Evening" "withdraw", .meth "Evening" "waits", .meth "Evening" "ahead_of", .meth "Evening" "within", .meth "Evening" "worst", .meth "Evening" "tale", .noat "Evening" "came", .noat "Evening" "going", .noat "Evening" "last", .noat "Evening" "rounds", .noat "Evening" "waiting", .glo "_law_cell_at", .glo "_law_draw", .glo "_law_value", .glo "_law_whole", .glo "_law_many", .glo "_law_deeds", .glo "_law_open", .glo "_law_queue", .glo "_law_wished", .glo "_law_sung", .glo "_law_out", .glo "_law_began", .glo "_law_worst", .glo "_law_turns_till", .glo "_law_right", .glo "law", .free "len", .free "isinstance", .free "all", .free "any", .free "range", .free "sorted", .free "set", .free "max", .free "min", .free "list", .free "enumerate", .free "zip", .free "int", .free "bool", .free "tuple", .free "str", .free "dict", .free "abs"]
abbrev R : PySem.W.OpenRow := PySem.W.OpenLaw.row PySem.Challenge.rw_songturns_k02_whole_within
def ex : List (PySem.W.Frag → Bool) := []
abbrev hk : PySem.W.Hook := hookY 4 fa fn ex
def ob (s : PySem.W.SharedT) : Bool × He.AlD := obsYG 4 fa fn ex (HandSHeadRun.getT s)
theorem ob_eq (s : PySem.W.SharedT) : ob s = hk.obs s.abs := obsYG_eq (HandSHeadRun.getT_eq s)
def loose0 : List Str := ["_wall", "__name__", "TurnError", "BadMany", "BadSingers", "BadSong", "TooMany", "MOST_SINGERS", "MOST_OF_SONG", "MOST_SONGS", "is_whole", "are_numbers", "check_many", "are_singers", "floor_of", "round_for", "in_turn", "more_ahead", "Evening", "_law_cell_at", "_law_draw", "_law_value", "_law_whole", "_law_many", "_law_deeds", "_law_open", "_law_queue", "_law_wished", "_law_sung", "_law_out"]
def loose1 : List Str := ["_law_began", "_law_worst", "_law_turns_till", "_law_right"]
def loose : List Str := loose0 ++ loose1
theorem tx_of {K : PySem.W.Frag} {h : Heap} {mg : Str → Option Value} (X : K.In h) (G : h.Ns mainGlobals mg) (c : He.SaysD fa fn K) (c2 : exOk ex K = true) : Tx K mg :=
  ⟨He.glo_ok X G (c.fact 0 (f := .glo "TurnError") rfl),
   He.glo_ok X G (c.fact 1 (f := .glo "BadMany") rfl),
   He.glo_ok X G (c.fact 2 (f := .glo "BadSingers") rfl),
   He.glo_ok X G (c.fact 3 (f := .glo "BadSong") rfl),
   He.glo_ok X G (c.fact 4 (f := .glo "TooMany") rfl),
   He.int_ok X G (c.fact 5 (f := .int "MOST_SINGERS" 6) rfl),
   He.int_ok X G (c.fact 6 (f := .int "MOST_OF_SONG" 3) rfl),
   He.int_ok X G (c.fact 7 (f := .int "MOST_SONGS" 24) rfl),
   He.glo_ok X G (c.fact 8 (f := .glo "is_whole") rfl),
   He.glo_ok X G (c.fact 9 (f := .glo "are_numbers") rfl),
   He.glo_ok X G (c.fact 10 (f := .glo "check_many") rfl),
   He.glo_ok X G (c.fact 11 (f := .glo "are_singers") rfl),
   He.glo_ok X G (c.fact 12 (f := .glo "floor_of") rfl),
   He.glo_ok X G (c.fact 13 (f := .glo "round_for") rfl),
   He.glo_ok X G (c.fact 14 (f := .glo "in_turn") rfl),
   He.glo_ok X G (c.fact 15 (f := .glo "more_ahead") rfl),
   He.glo_ok X G (c.fact 16 (f := .glo "Evening") rfl),
   He.cls_ok (c.fact 17 (f := .cls "Evening") rfl),
   He.mkr_ok (c.fact 18 (f := .mkr "Evening") rfl),
   He.meth_ok (c.fact 19 (f := .meth "Evening" "wish") rfl),
   He.meth_ok (c.fact 20 (f := .meth "Evening" "sing") rfl),
   He.meth_ok (c.fact 21 (f := .meth "Evening" "look_at") rfl),
   He.meth_ok (c.fact 22 (f := .meth "Evening" "withdraw") rfl),
   He.meth_ok (c.fact 23 (f := .meth "Evening" "waits") rfl),
   He.meth_ok (c.fact 24 (f := .meth "Evening" "ahead_of") rfl),
   He.meth_ok (c.fact 25 (f := .meth "Evening" "within") rfl),
   He.meth_ok (c.fact 26 (f := .meth "Evening" "worst") rfl),
   He.meth_ok (c.fact 27 (f := .meth "Evening" "tale") rfl),
   He.noat_ok (c.fact 28 (f := .noat "Evening" "came") rfl),
   He.noat_ok (c.fact 29 (f := .noat "Evening" "going") rfl),
   He.noat_ok (c.fact 30 (f := .noat "Evening" "last") rfl),
   He.noat_ok (c.fact 31 (f := .noat "Evening" "rounds") rfl),
   He.noat_ok (c.fact 32 (f := .noat "Evening" "waiting") rfl),
   He.glo_ok X G (c.fact 33 (f := .glo "_law_cell_at") rfl),
   He.glo_ok X G (c.fact 34 (f := .glo "_law_draw") rfl),
   He.glo_ok X G (c.fact 35 (f := .glo "_law_value") rfl),
   He.glo_ok X G (c.fact 36 (f := .glo "_law_whole") rfl),
   He.glo_ok X G (c.fact 37 (f := .glo "_law_many") rfl),
   He.glo_ok X G (c.fact 38 (f := .glo "_law_deeds") rfl),
   He.glo_ok X G (c.fact 39 (f := .glo "_law_open") rfl),
   He.glo_ok X G (c.fact 40 (f := .glo "_law_queue") rfl),
   He.glo_ok X G (c.fact 41 (f := .glo "_law_wished") rfl),
   He.glo_ok X G (c.fact 42 (f := .glo "_law_sung") rfl),
   He.glo_ok X G (c.fact 43 (f := .glo "_law_out") rfl),
   He.glo_ok X G (c.fact 44 (f := .glo "_law_began") rfl),
   He.glo_ok X G (c.fact 45 (f := .glo "_law_worst") rfl),
   He.glo_ok X G (c.fact 46 (f := .glo "_law_turns_till") rfl),
   He.glo_ok X G (c.fact 47 (f := .glo "_law_right") rfl),
   He.glo_ok X G (c.fact 48 (f := .glo "law") rfl),
   He.free_ok X G (c.fact 49 (f := .free "len") rfl),
   He.free_ok X G (c.fact 50 (f := .free "isinstance") rfl),
   He.free_ok X G (c.fact 51 (f := .free "all") rfl),
   He.free_ok X G (c.fact 52 (f := .free "any") rfl),
   He.free_ok X G (c.fact 53 (f := .free "range") rfl),
   He.free_ok X G (c.fact 54 (f := .free "sorted") rfl),
   He.free_ok X G (c.fact 55 (f := .free "set") rfl),
   He.free_ok X G (c.fact 56 (f := .free "max") rfl),
   He.free_ok X G (c.fact 57 (f := .free "min") rfl),
   He.free_ok X G (c.fact 58 (f := .free "list") rfl),
   He.free_ok X G (c.fact 59 (f := .free "enumerate") rfl),
   He.free_ok X G (c.fact 60 (f := .free "zip") rfl),
   He.free_ok X G (c.fact 61 (f := .free "int") rfl),
   He.free_ok X G (c.fact 62 (f := .free "bool") rfl),
   He.free_ok X G (c.fact 63 (f := .free "tuple") rfl),
   He.free_ok X G (c.fact 64 (f := .free "str") rfl),
   He.free_ok X G (c.fact 65 (f := .free "dict") rfl),
   He.free_ok X G (c.fact 66 (f := .free "abs") rfl),
   c.def_ 0 (d := d_is_whole) rfl,
   c.def_ 1 (d := d_are_numbers) rfl,
   c.def_ 2 (d := d_check_many) rfl,
   c.def_ 3 (d := d_are_singers) rfl,
   c.def_ 4 (d := d_floor_of) rfl,
   c.def_ 5 (d := d_round_for) rfl,
   c.def_ 6 (d := d_in_turn) rfl,
   c.def_ 7 (d := d_more_ahead) rfl,
   c.def_ 8 (d := d_Evening___init__) rfl,
   c.def_ 9 (d := d_Evening_wish) rfl,
   c.def_ 10 (d := d_Evening_sing) rfl,
   c.def_ 11 (d := d_Evening_look_at) rfl,
   c.def_ 12 (d := d_Evening_withdraw) rfl,
   c.def_ 13 (d := d_Evening_waits) rfl,
   c.def_ 14 (d := d_Evening_ahead_of) rfl,
   c.def_ 15 (d := d_Evening_within) rfl,
   c.def_ 16 (d := d_Evening_worst) rfl,
   c.def_ 17 (d := d_Evening_tale) rfl,
   c.def_ 18 (d := d__law_cell_at) rfl,
   c.def_ 19 (d := d__law_draw) rfl,
   c.def_ 20 (d := d__law_value) rfl,
   c.def_ 21 (d := d__law_whole) rfl,
   c.def_ 22 (d := d__law_many) rfl,
   c.def_ 23 (d := d__law_deeds) rfl,
   c.def_ 24 (d := d__law_open) rfl,
   c.def_ 25 (d := d__law_queue) rfl,
   c.def_ 26 (d := d__law_wished) rfl,
   c.def_ 27 (d := d__law_sung) rfl,
   c.def_ 28 (d := d__law_out) rfl,
   c.def_ 29 (d := d__law_began) rfl,
   c.def_ 30 (d := d__law_worst) rfl,
   c.def_ 31 (d := d__law_turns_till) rfl,
   c.def_ 32 (d := d__law_right) rfl,
   c.def_ 33 (d := d_law) rfl⟩
theorem run (w : World) : HandSHeadRun.RunEq R (PySem.W.view R.prog [38]) hk ob 6000 loose w := by
  intro os
  kernel_rfl
end Song

/-! ### End: the law's call, the head -/
namespace Song
open PySem L2
/-- the law's end over a head by facts, with the bound on the script's numbers -/
theorem walk_end {l : PySem.W.OpenLaw} {n k : Nat} {q : Program} {loose : List Str} {XP : (Str → Option Value) → Heap → Prop} {YP : World → Heap → Prop} {d : DefRec} {x : Str}
    (hn : l.most = some n) (hn2 : n ≤ sizeLine) (hdf : d.params.defaults = []) (hr : Room k callerA)
    (F : ∀ (w : World) (mg : Str → Option Value) (fa : Addr) (h : Heap), YP w h → h.Ns mainGlobals mg → mg d.name = some (.ref fa) →
      ∃ (K : PySem.W.Frag) (fd : FuncData) (sp : Sp), K.In h ∧ (∀ (s : Shared) (u : Value), BindsTo s fd ⟨[u], []⟩ [(x, u)]) ∧
        (∀ (H : Hp) (a : Addr) (ns : List Int), ns.length ≤ n → (∀ z ∈ ns, Builtin.Int.intBits z ≤ 1048576) → SqL K H a (ns.map V.int) → sp [.ref a] H (fun v _ => v = .bl true) fun _ _ _ => False) ∧
        ∀ base : Heap, K.In base → base.Ns mainGlobals mg → FnOk l.prog w K mg base CX0 k fa fd [x] sp) :
    PySem.W.WalkO q loose XP YP l.row.toRowW d [] (fun f vs => PySem.call f vs) := by
  refine Att.attach_callB hn hdf fun w s₀ s₁ mg mb fa o pm cd doc a vs ns G Y ho hd hcd hmg hobj hi hlen hbits hg => ?_
  obtain ⟨K, fd, sp, KX, hb, hsp, hF⟩ := F w mg fa _ Y G.T.g hmg
  exact law_call KX G.T.g G.T.b G.T.builtins G.T.nolimit hg hobj hi (Nat.le_trans hlen hn2) hr hF hb (fun H _ hS => hsp H a ns hlen hbits hS) fun H e s' z => z
theorem facts {P : Program} {w : World} {K : PySem.W.Frag} {h : Heap} {mg : Str → Option Value} {f : Addr} (X : K.In h) (G : h.Ns mainGlobals mg) (hfa : mg ("law" : Str) = some (.ref f)) (c : He.SaysD fa fn K) (c2 : exOk ex K = true) :
    ∃ fd : FuncData, (∀ (s : Shared) (v : Value), BindsTo s fd ⟨[v], []⟩ [("_law_script", v)]) ∧ ∀ base : Heap, K.In base → base.Ns mainGlobals mg → FnOk P w K mg base CX0 7 f fd ["_law_script"] (spLaw K) := by
  have T := tx_of X G c c2
  obtain ⟨fd, F⟩ := T.d_law
  have e : He.ga K "law" = f := by
    have z := T.g_law.symm.trans hfa
    injection z with z; injection z
  subst e
  have b := FunD.bindsA (ps := ["_law_script"]) F fun _ _ _ _ _ _ us hl => match us, hl with | [_], _ => rfl
  exact ⟨fd, fun s v => b s [v] rfl, fun base _ _ => ok_law0 (P := P) (w := w) (base := base) T F⟩
end Song
open PySem PySem.W PySem.Calls PyProof.Rows
set_option maxHeartbeats 0 in
theorem PySem.Challenge.cw_songturns_k02_whole_within_holds : PySem.Challenge.rw_songturns_k02_whole_within.Holds := by
  w_on; o_law
  refine HandSHeadRun.head_any (r := OpenLaw.row PySem.Challenge.rw_songturns_k02_whole_within) (q := view (OpenLaw.row PySem.Challenge.rw_songturns_k02_whole_within).prog [38]) (H := Song.hk) (ob := Song.ob) (M := 6000) (loose := Song.loose) (d := HandSHeadRun.topDef (OpenLaw.row PySem.Challenge.rw_songturns_k02_whole_within).prog 38) (kwd := []) Song.ob_eq
    (by kernel_rfl) (fun s => by kernel_rfl) Song.run (by kernel_rfl) (by kernel_rfl) (by kernel_rfl) (by rfl) (by first | assumption | decide +kernel) (by decide +kernel) ⟨rfl, rfl, rfl, rfl, rfl, by decide +kernel⟩ ?hw ?hc
  case hw => w_witness2
  case hc =>
    refine Song.walk_end (l := PySem.Challenge.rw_songturns_k02_whole_within) (n := 63) (k := 7) (x := "_law_script") rfl (by decide) (by kernel_rfl) ⟨rfl, by decide, by decide⟩ ?F
    intro w mg fa h Y G hmg0
    obtain ⟨K, KX, c, c2⟩ := Y
    have hmg : mg ("law" : PySem.Str) = some (.ref fa) := by
      have e : (HandSHeadRun.topDef (OpenLaw.row PySem.Challenge.rw_songturns_k02_whole_within).prog 38).name = ("law" : PySem.Str) := by kernel_rfl
      rw [← e]
      exact hmg0
    obtain ⟨fd, hb, hF⟩ := Song.facts (P := (PySem.Challenge.rw_songturns_k02_whole_within).prog) (w := w) KX G hmg c c2
    exact ⟨K, fd, Song.spLaw K, KX, hb, fun H a ns hl hz hS => ⟨a, ns, rfl, hS, ⟨hl, fun z hm => Song.Bits.of_int (hz z hm)⟩, fun _ => rfl⟩, hF⟩
#print axioms PySem.Challenge.cw_songturns_k02_whole_within_holds
