import PyProof.Rows.All
import Wide.All
import OpenK.AllK
import Wide.FinOn
import KE.KStateDown
import HandS.ForMost
import HandS.IsInst
import HandS.Defaults
import HandS.Wide
import HandS.SortInts
import HandS.SortRule
import HandS.Strs
import HandS.SetFor
import HandS.Style
import HandS.Conv
import HandS.More
import HandS.Walk
import HandS.Flow
import HandS.Head0
import HandS.Head1
import HandS.Head2
import HandS.HeadEnd
import HandS.HeadHook1
import HandS.HeadHook2
import HandS.EndBits
import HandS.WordsDict
import HandS.Small
import KE.KDictList
import HandS.Deep
import PySem.Challenge.RW_songturns_k05_whole_spaced
set_option Elab.async false
set_option linter.all false
set_option maxRecDepth 100000
set_option maxHeartbeats 4000000
/-! ### SetL: set(xs) of a list of int numbers, as a value -/
namespace Song
open PySem PySem.Spec PyProof.Rows L2
/-- a set just laid -/
abbrev set0 (w : World) : Obj := ⟨.type "set", none, .set #[] 0 (.fresh 0 0 (!w.params.followText "set-order")), #[]⟩
section
variable {P : Program} {w : World} {A : Around} {E : Value → Shared → Prop} {s : Shared}
set_option maxHeartbeats 8000000 in
theorem set_of_list {l : Addr} {its : Array Value} (ks : List Int) {Q : Value → Shared → Prop} (nh : A.handled = none) (isl : s.heap.IsList l its) (hint : IntsAre its.toList ks) (few : ks.length + 1 < scanBound)
    (q : ∀ (h2 : Heap) (tk c : Nat), SetR w h2 s.heap.objs.size (fun j => decide (j ∈ ks)) c → c ≤ ks.length → (∀ b o, s.heap.get? b = some o → h2.get? b = some o) → Q (.ref s.heap.objs.size) { s with heap := h2, toks := tk }) :
    wpAny (model P w) A (call (.type "set") [.ref l]) Q E s := by
  have lenI : its.size = ks.length := by have z := IntsAre.length hint; rw [Array.length_toList] at z; exact z
  obtain ⟨_, _, mroS⟩ := F.called_set.mro
  have madeS := F.called_set.made
  have subS := F.called_set.sub
  refine wpAny_call (codeAny_of_tree ?_)
  show wpAny _ _ (callAny (.type "set") _) _ _ _
  refine wpAny_pure ⟨Code.quiet_builtin _ (by decide +kernel), codeAny_builtin F.entry_type_call ?_⟩
  rw [Around.under_plain (weight_type_call_type "set" [.ref l] []) rfl]
  have n1 := F.called_set.notType
  have n2 := F.called_set.canCreate
  have n3 := F.typeCall_set_1 (.ref l)
  repeat (any_goals (first | assumption | wp_step))
  refine codeAny_mono (code_set_led1 (.ref l) (E := E) (Q₁ := fun ob s1 => ob = .ref s.heap.objs.size ∧ s1 = { s with heap := s.heap.push (set0 w) }) ⟨rfl, rfl⟩) fun res s1 hres => ?_
  cases res with
  | error e => exact hres
  | ok fl =>
    cases fl with
    | ret ob =>
      obtain ⟨rfl, rfl⟩ := hres
      have atS : (s.heap.push (set0 w)).get? s.heap.objs.size = some (set0 w) := Heap.get?_push_size _ rfl
      have tyS : Shared.TypeIs { s with heap := s.heap.push (set0 w) } (.ref s.heap.objs.size) "set" := ⟨_, atS, rfl⟩
      have i1 := F.called_set.init.lookup
      have i2 := F.called_set.init.bind (.ref s.heap.objs.size)
      repeat (any_goals (first | assumption | wp_step))
      refine codeAny_mono (codeAny_call_builtin (R := wants (fun r s2 => r = .none ∧ ∃ h2 tk c, s2 = { s with heap := h2, toks := tk } ∧ SetR w h2 s.heap.objs.size (fun j => decide (j ∈ ks)) c ∧ c ≤ ks.length ∧
        (∀ b o, s.heap.get? b = some o → h2.get? b = some o)) E) F.called_set.init.plain F.entry_set_init (check_set_init_1 tyS ?_)) fun r2 s2 hr2 => ?_
      · obtain ⟨⟨oc, od, odt, osl⟩, ho, c1, nl, c2⟩ := isl
        simp only at c1 c2
        subst c1; subst c2
        have ho1 : (s.heap.push (set0 w)).get? l = some ⟨.type "list", od, .seq its nl, osl⟩ := Heap.get?_push_of_some _ ho
        have u1 := F.sub_list_set
        have u2 := F.sub_list_frozenset
        have u3 : (Value.type "list" == Value.type "dict") = false := by decide
        have isl1 : (s.heap.push (set0 w)).IsList l its := ⟨_, ho1, rfl, nl, rfl⟩
        unfold Builtin.«set.__init__» noKeywords Builtin.Frozenset.updateFrom
        generalize keepI : pyIter = PI
        wp_walk
        subst keepI
        refine wpAny_pyIter_list isl1 ?_
        refine wpAny_bind (wpAny_runValue ?_)
        have lt : l < s.heap.objs.size := Heap.lt_size ho
        have nh3 : A.in1.in1.in1.handled = none := by simp [nh]
        have ne1 : l ≠ (s.heap.push (set0 w)).objs.size := by rw [Heap.size_push]; exact Nat.ne_of_lt (Nat.lt_succ_of_lt lt)
        have ne2 : s.heap.objs.size ∉ [(s.heap.push (set0 w)).objs.size, l] := by
          rw [Heap.size_push]
          simp only [List.mem_cons, List.not_mem_nil, or_false, not_or]
          exact And.intro (Nat.ne_of_lt (Nat.lt_succ_self _)) (Nat.ne_of_gt lt)
        have vals : ∀ (i : Nat) (v : Value), its[i]? = some v → ∃ k t, ks[i]? = some k ∧ v = .int k t := fun i v hv => by
          have lti : i < ks.length := by rw [← lenI]; exact (Array.getElem?_eq_some_iff.mp hv).1
          obtain ⟨t, e⟩ := PyProof.Rows.IntsAre.int_at hint i v (by rw [Array.getElem?_toList]; exact hv)
          refine ⟨ks[i], t, List.getElem?_eq_getElem lti, ?_⟩
          rw [e, List.getD_eq_getElem?_getD, List.getElem?_eq_getElem lti] <;> rfl
        refine set_update_ints ((Walks.list nh3 _ l ne1 its).toS) s.heap.objs.size ne2 ks lenI few vals (its.size - 0) 0 _ (by omega) (Nat.zero_le _)
          ⟨⟨_, Heap.get?_push_size _ rfl, rfl, rfl⟩, (isl1.push _)⟩ ⟨0, Nat.le_refl 0, setR_new_at (Heap.get?_push_of_some _ atS)⟩ ?_
        intro s3 c3 mv hc3 hS3
        obtain ⟨h3, g3, d3, t3, o3⟩ := s3
        have eg : g3 = s.gens := mv.gens
        have ed : d3 = s.drawn := mv.drawn
        have eo : o3 = s.os := mv.os
        subst eg; subst ed; subst eo
        show wpAny _ _ _ _ _ _
        refine wpAny_pure ?_
        show wpAny _ _ (ret Value.none) _ _ _
        rw [lenI] at hc3
        refine wpAny_pure ⟨rfl, h3, t3, c3, rfl, hS3, hc3, fun b o e => ?_⟩
        have b0 : b < s.heap.objs.size := Heap.lt_size e
        refine mv.heap b o ?_ (Heap.get?_push_of_some _ (Heap.get?_push_of_some _ e))
        rw [Heap.size_push]
        simp only [List.mem_cons, List.not_mem_nil, or_false, not_or]
        exact And.intro (Nat.ne_of_lt b0) (Nat.ne_of_lt (Nat.lt_succ_of_lt b0))
      · cases r2 with
        | error e => exact hr2
        | ok f2 =>
          cases f2 with
          | ret r =>
            obtain ⟨rfl, h2, tk, c, rfl, hS, hc, hk⟩ := hr2
            repeat (any_goals (first | assumption | wp_step))
            exact q _ _ _ hS hc hk
          | _ => exact hr2.elim
    | _ => exact hres.elim
end
/-- set(xs), xs a list of int numbers: who is in, and no more than there were -/
def rSetI (K : PySem.W.Frag) (w : World) : List V → Hp → VK → Prop := fun xs H Q => ∃ (l : Addr) (ks : List Int), xs = [V.ref l] ∧ SqL K H l (ks.map V.int) ∧ ks.length ≤ 1000 ∧
  ∀ (a : Addr) (c : Nat), c ≤ ks.length → H a = none → Q (.ref a) (upd H a (SetO w a (fun j => decide (j ∈ ks)) c))
theorem cr_setI {X : Cx} (hc : X.calm = true) : CallR X (.type "set") (rSetI X.K X.w) := by
  intro pins s σ H xs us Q I r h
  obtain ⟨l, ks, rfl, hs, hl, q⟩ := h
  obtain ⟨its, rv, ⟨o, n, ho, c1, c2, c3⟩, hlen⟩ := I.list hs
  have hint : IntsAre its ks := ints_of_vals rv
  have isl : s.heap.IsList l its.toArray := ⟨o, ho, c1, n, c3⟩
  rw [Vals.ref1 r]
  refine set_of_list ks (I.ok.hd hc) isl (by simpa using hint) (by unfold scanBound; omega) fun h2 tk c hS hcl hk => ?_
  have hn : H s.heap.objs.size = none := I.hok.fresh (Nat.le_refl _)
  obtain ⟨o2, es, ep, st, ho2, rest⟩ := id hS
  refine ⟨.ref s.heap.objs.size, _, I.laid (t' := tk) (fun b u e => hk b u e) (Nat.le_refl _) ?_, rfl, q _ c hcl hn⟩
  exact setO_new hS
end Song

/-! ### Lay: what every def's proof leans on (own layer over the hand layer) -/
namespace Song
open PySem L2

/-! #### heaps -/
theorem Same.new {H : Hp} {p : Addr} {o : HO} (n : H p = none) : Same H (upd H p o) := fun b o' e => by
  rw [upd_ne (ne_of_none e n)]
  exact e
/-- a new object: the heap behind it is only known to extend the one ahead -/
theorem new_all {H : Hp} {o : HO} {Q : Addr → Hp → Prop} (h : ∀ p H', H p = none → Same H H' → H' p = some o → Q p H') : ∀ p, H p = none → Q p (upd H p o) :=
  fun p n => h p _ n (Same.new n) upd_same
/-- behind a new object: the heap is only known to extend the one ahead -/
@[elab_as_elim] theorem to_new {H : Hp} {p : Addr} {o : HO} {Q : Hp → Prop} (n : H p = none) (h : ∀ H', Same H H' → H' p = some o → Q H') : Q (upd H p o) := h _ (Same.new n) upd_same
/-- a heap without some addresses -/
def off (S : List Addr) (H : Hp) : Hp := fun a => if a ∈ S then none else H a
theorem off_in {S : List Addr} {H : Hp} {a : Addr} (h : a ∈ S) : off S H a = none := by unfold off; rw [if_pos h]
theorem off_out {S : List Addr} {H : Hp} {a : Addr} (h : a ∉ S) : off S H a = H a := by unfold off; rw [if_neg h]
theorem off_some {S : List Addr} {H : Hp} {a : Addr} {o : HO} (h : off S H a = some o) : a ∉ S ∧ H a = some o := by
  by_cases q : a ∈ S
  · rw [off_in q] at h; cases h
  · rw [off_out q] at h; exact ⟨q, h⟩
theorem off_le (S : List Addr) (H : Hp) : Same (off S H) H := fun _ _ h => (off_some h).2
theorem off_mono {S : List Addr} {H H' : Hp} (s : Same H H') : Same (off S H) (off S H') := fun b o h => by
  obtain ⟨q, h⟩ := off_some h
  rw [off_out q]; exact s _ _ h
/-- all but the addresses S stays -/
def Fra (S : List Addr) (H H' : Hp) : Prop := ∀ a o, a ∉ S → H a = some o → H' a = some o
theorem Fra.refl (S : List Addr) (H : Hp) : Fra S H H := fun _ _ _ h => h
theorem Fra.of {S : List Addr} {H H' : Hp} (s : Same H H') : Fra S H H' := fun a o _ h => s a o h
theorem Fra.trans {S : List Addr} {H H1 H2 : Hp} (a : Fra S H H1) (b : Fra S H1 H2) : Fra S H H2 := fun c o n h => b c o n (a c o n h)
theorem Fra.mono {S S' : List Addr} {H H' : Hp} (f : Fra S H H') (h : ∀ a ∈ S, a ∈ S') : Fra S' H H' := fun a o n e => f a o (fun q => n (h a q)) e
theorem Fra.put {S : List Addr} {H : Hp} {a : Addr} {o : HO} (h : a ∈ S) : Fra S H (upd H a o) := fun b o' n e => by
  have q : b ≠ a := fun q => n (by rw [q]; exact h)
  rw [upd_ne q]; exact e
@[elab_as_elim] theorem to_put {H : Hp} {p : Addr} {o : HO} {Q : Hp → Prop} (h : ∀ H', Fra [p] H H' → H' p = some o → Q H') : Q (upd H p o) := h _ (Fra.put (by simp)) upd_same
theorem Fra.one {H H' : Hp} {p a : Addr} {o : HO} (f : Fra [p] H H') (n : a ≠ p) (h : H a = some o) : H' a = some o := f a o (by simpa using n) h
theorem Fra.off {S : List Addr} {H H' : Hp} (f : Fra S H H') : Same (off S H) (off S H') := fun b o h => by
  obtain ⟨q, h⟩ := off_some h
  rw [off_out q]; exact f _ _ q h
theorem Fra.same {H H' : Hp} (f : Fra [] H H') : Same H H' := fun b o h => f b o (by simp) h
/-- what is new to H stays outside of what H tells -/
theorem Fra.back {H0 H H' : Hp} {S : List Addr} (s : Same H0 H) (f : Fra S H H') (h : ∀ a ∈ S, H0 a = none) : Same H0 H' := fun b o e =>
  f b o (fun q => by rw [h b q] at e; cases e) (s b o e)
theorem Same.sqT {K : PySem.W.Frag} {H H' : Hp} {a : Addr} {xs : List V} (e : Same H H') (h : SqT K H a xs) : SqT K H' a xs := by
  rcases h with (h | ⟨o, h⟩) | h
  · exact .inl (.inl (e _ _ h))
  · exact .inl (.inr ⟨o, e _ _ h⟩)
  · exact .inr h
mutual
theorem dp_mono {K : PySem.W.Frag} {H H' : Hp} (e : Same H H') : ∀ {v : V} {d : PyData}, Dp K H v d → Dp K H' v d
  | _, _, .non => .non
  | _, _, .bl b => .bl b
  | _, _, .int i => .int i
  | _, _, .str x => .str x
  | _, _, .lst s a => .lst (e.seq s) (dpAll_mono e a)
  | _, _, .tup s a => .tup (Same.sqT e s) (dpAll_mono e a)
theorem dpAll_mono {K : PySem.W.Frag} {H H' : Hp} (e : Same H H') : ∀ {vs : List V} {ds : List PyData}, DpAll K H vs ds → DpAll K H' vs ds
  | _, _, .nil => .nil
  | _, _, .cons d a => .cons (dp_mono e d) (dpAll_mono e a)
end
theorem dpAll_app {K : PySem.W.Frag} {H : Hp} : ∀ {vs ws : List V} {ds es : List PyData}, DpAll K H vs ds → DpAll K H ws es → DpAll K H (vs ++ ws) (ds ++ es)
  | _, _, _, _, .nil, h => h
  | _, _, _, _, .cons d a, h => .cons d (dpAll_app a h)
theorem dpAll_len {K : PySem.W.Frag} {H : Hp} : ∀ {vs : List V} {ds : List PyData}, DpAll K H vs ds → vs.length = ds.length
  | _, _, .nil => rfl
  | _, _, .cons _ a => by simp [dpAll_len a]
theorem dpAll_get {K : PySem.W.Frag} {H : Hp} : ∀ {vs : List V} {ds : List PyData} {i : Nat} {v : V}, DpAll K H vs ds → vs[i]? = some v → ∃ d, ds[i]? = some d ∧ Dp K H v d
  | _, _, _, _, .nil, e => by simp at e
  | _, _, 0, _, .cons d a, e => by
    simp at e; subst e; exact ⟨_, rfl, d⟩
  | _, _, i + 1, v, .cons d a, e => by
    obtain ⟨d', h1, h2⟩ := dpAll_get (i := i) (v := v) a (by simpa using e)
    exact ⟨d', by simpa using h1, h2⟩
theorem dpAll_ints {K : PySem.W.Frag} {H : Hp} : ∀ (ns : List Int), DpAll K H (ns.map V.int) (ns.map PyData.int)
  | [] => .nil
  | n :: r => .cons (.int n) (dpAll_ints r)
theorem dp_ints {K : PySem.W.Frag} {H : Hp} {a : Addr} {ns : List Int} (h : SqL K H a (ns.map V.int)) : Dp K H (.ref a) (.list (ns.map PyData.int)) := .lst h (dpAll_ints ns)
theorem ints_inj : ∀ {ns ms : List Int}, ns.map V.int = ms.map V.int → ns = ms
  | [], [], _ => rfl
  | [], _ :: _, h => by cases h
  | _ :: _, [], h => by cases h
  | a :: r, b :: s, h => by
    simp only [List.map_cons, List.cons.injEq, V.int.injEq] at h
    rw [h.1, ints_inj h.2]

/-! #### calls of the program's own defs, by one word each -/
section
variable {P : Program} {w : World} {K : PySem.W.Frag} {mg : Str → Option Value} {base : Heap}
structure Fn (P : Program) (w : World) (K : PySem.W.Frag) (mg : Str → Option Value) (base : Heap) (x : Str) (k : Nat) (sp : Sp) : Prop where
  ex : ∃ (f : Addr) (fd : FuncData) (ps : List Str), FnOk P w K mg base CX0 k f fd ps sp ∧ mg x = some (.ref f) ∧ PySem.W.keepIn K (.ref f) = true ∧ Binds K fd ps []
structure Me (P : Program) (w : World) (K : PySem.W.Frag) (mg : Str → Option Value) (base : Heap) (C : Addr) (m : Str) (k : Nat) (sp : Sp) : Prop where
  ex : ∃ (f : Addr) (fd : FuncData) (ps : List Str), FnOk P w K mg base CX0 k f fd ps sp ∧ Cls K C ∧ Meth K C m f ∧ Binds K fd ps []
structure Mke (P : Program) (w : World) (K : PySem.W.Frag) (mg : Str → Option Value) (base : Heap) (x : Str) (C : Addr) (k : Nat) (sp : Sp) : Prop where
  ex : ∃ (f : Addr) (fd : FuncData) (ps : List Str), FnOk P w K mg base CX0 k f fd ps sp ∧ Mk K C f ∧ mg x = some (.ref C) ∧ Binds K fd ps []
abbrev FnP (K : PySem.W.Frag) (x q : Str) (st : Stmt) (f : Addr) (fd : FuncData) : Prop := FunD K x q (defArgs st) (defBody st) (defScope st) [] [] f fd
end
section
variable {X : Cx} {x m : Str} {k : Nat} {sp : Sp} {e o : Expr} {es : List Expr} {t : TA} {to : TE} {C : Addr} {p apos pos : Pos}
theorem pe_fn (F : Fn X.prog X.w X.K X.mg X.base x k sp) (hr : Room k X.A) (hg : Gl X x) (ha : PA X (e :: es) t)
    (hdb : (x == ("__debug__" : Str)) = false := by decide) (he : starEach (e :: es) X.env = (false, eval e X.env) :: starEach es X.env := by rfl) (hpl : (backTo pos (starEach es X.env)).any (·.1) = false := by rfl) :
    PE X (.Call (.Name x p) (e :: es) [] pos) (tCall sp [] E0 t) := by
  obtain ⟨f, fd, ps, h1, h2, h3, h4⟩ := F.ex
  exact pe_call h1 hr hg h2 h3 h4 .nil pass0 ha hdb he hpl
theorem pe_fn0 (F : Fn X.prog X.w X.K X.mg X.base x k sp) (hr : Room k X.A) (hg : Gl X x) (hdb : (x == ("__debug__" : Str)) = false := by decide) :
    PE X (.Call (.Name x p) [] [] pos) (tCall sp [] E0 tNil) := by
  obtain ⟨f, fd, ps, h1, h2, h3, h4⟩ := F.ex
  exact pe_call0 h1 hr hg h2 h3 h4 .nil pass0 hdb
theorem pe_me {pl : Sem Bool} (F : Me X.prog X.w X.K X.mg X.base C m k sp) (hr : Room k X.A) (ho : PE X o to) (ha : PA X (e :: es) t)
    (hst : starEach (e :: es) X.env = (false, eval e X.env) :: starEach es X.env := by rfl) (hpl : (backTo pos (starEach es X.env)).any (·.1) = false := by rfl)
    (ht : eval (.Call (.Attribute o m apos) (e :: es) [] pos) X.env = (do
      let ov ← eval o X.env
      standAt apos.atName
      let (f, first) ← holding [ov] (getMethod ov m pl)
      callWith pos f first (backTo pos (starEach (e :: es) X.env)) (backToKw pos (keywordEach [] X.env))) := by rfl) :
    PE X (.Call (.Attribute o m apos) (e :: es) [] pos) (tMeth C m sp [] E0 to t) := by
  obtain ⟨f, fd, ps, h1, h2, h3, h4⟩ := F.ex
  exact pe_meth ho h2 h3 h1 hr h4 .nil pass0 ha hst hpl ht
theorem pe_me0 {pl : Sem Bool} (F : Me X.prog X.w X.K X.mg X.base C m k sp) (hr : Room k X.A) (ho : PE X o to)
    (ht : eval (.Call (.Attribute o m apos) [] [] pos) X.env = (do
      let ov ← eval o X.env
      standAt apos.atName
      let (f, first) ← holding [ov] (getMethod ov m pl)
      callWith pos f first (backTo pos (starEach [] X.env)) (backToKw pos (keywordEach [] X.env))) := by rfl) :
    PE X (.Call (.Attribute o m apos) [] [] pos) (tMeth C m sp [] E0 to tNil) := by
  obtain ⟨f, fd, ps, h1, h2, h3, h4⟩ := F.ex
  exact pe_meth0 ho h2 h3 h1 hr h4 .nil pass0 ht
theorem pe_mk (F : Mke X.prog X.w X.K X.mg X.base x C k sp) (hr : Room (k + 1) X.A) (hg : Gl X x) (ha : PA X (e :: es) t)
    (hdb : (x == ("__debug__" : Str)) = false := by decide) (he : starEach (e :: es) X.env = (false, eval e X.env) :: starEach es X.env := by rfl) (hpl : (backTo pos (starEach es X.env)).any (·.1) = false := by rfl) :
    PE X (.Call (.Name x p) (e :: es) [] pos) (tMake C sp [] E0 t) := by
  obtain ⟨f, fd, ps, h1, h2, h3, h4⟩ := F.ex
  exact pe_make h2 h1 hr hg h3 h4 .nil pass0 ha hdb he hpl
theorem pe_gi {i : Int} (h : ∃ t, X.mg x = some (.int i t)) (hg : Gl X x) (hd : (x == ("__debug__" : Str)) = false := by decide) : PE X (.Name x pos) (tC (.int i)) := by
  obtain ⟨t, h⟩ := h
  exact pe_glob hg h ⟨t, rfl⟩ hd
theorem pe_gc (h : X.mg x = some (.ref C)) (hg : Gl X x) (hd : (x == ("__debug__" : Str)) = false := by decide) : PE X (.Name x pos) (tC (.ref C)) := pe_glob hg h rfl hd
theorem pe_gt {n : String} (h : X.mg x = none) (hg : Gl X x) (hv : bootBuiltins x = some (.type n)) (hn : x ≠ "__name__" := by decide) (hd : (x == ("__debug__" : Str)) = false := by decide) : PE X (.Name x pos) (tC (.ty n)) := pe_bltn hg h hv rfl hn hd
/-- * of ints, by what the model itself asks -/
theorem op_mulO : OpR X (binaryOp .Mult) (rI IntMulOk fun i j => .int (i * j)) := opI fun _ _ _ _ _ _ _ hc q => PyProof.Rows.mul_int q hc
end

/-- readings of rules that the kit states without a name -/
def rLenQ (K : PySem.W.Frag) : List V → Hp → VK → Prop := fun xs H Q => ∃ p ys, xs = [.ref p] ∧ (SqL K H p ys ∨ SqT K H p ys) ∧ Q (.int ys.length) H
def rListO (K : PySem.W.Frag) : List V → Hp → VK → Prop := fun xs H Q => ∃ p ys, xs = [.ref p] ∧ (SqL K H p ys ∨ SqT K H p ys) ∧ ∀ l, H l = none → Q (.ref l) (upd H l (.lst ys))
def rTupO (K : PySem.W.Frag) : List V → Hp → VK → Prop := fun xs H Q => ∃ p ys, xs = [.ref p] ∧ ((SqL K H p ys ∧ ∀ l, H l = none → Q (.ref l) (upd H l (.tup ys))) ∨ (SqT K H p ys ∧ Q (.ref p) H))
/-! #### comprehensions -/
section
variable {J : It} {n : Nat} {G : Hp → Prop} {Y : Nat → Hp → V → Hp → Prop} {g : TG} {tt : TT} {te : TE} {vs : List Nat} {σ : St} {H1 : Hp} {D : Addr} {Qd : Hp → Prop}
/-- what a comprehension over a walk asks -/
abbrev LcAsks (J : It) (g : TG) (tt : TT) (te : TE) (vs : List Nat) (σ : St) (H1 : Hp) (D : Addr) (Qd : Hp → Prop) : Prop :=
  ∃ W : Nat → Nat → Hp → Prop, (∃ m, W 0 m (upd H1 D (.lst []))) ∧ ∀ i m H, W i m H →
      (J.stop i H ∧ Qd H) ∨ (J.go i H ∧ ∃ Nx : Hp → Prop, (∀ H', Nx H' → ∃ m', m' < m ∧ W (i + 1) m' H') ∧ ∀ x H', J.yld i H x H' → g x (wipe σ vs) H' fun σ2 H2 => wipe σ2 vs = wipe σ vs ∧ tt σ2 H2 fun b H3 =>
        if b = true then te σ2 H3 fun y H4 => ∃ acc, H4 D = some (.lst acc) ∧ acc.length < sizeLine ∧ Nx (upd H4 D (.lst (acc ++ [y]))) else Nx H3)
theorem off_one {H : Hp} {D : Addr} {o : HO} : off [D] (upd H D o) = off [D] H := by
  funext b
  by_cases q : b ∈ [D]
  · rw [off_in q, off_in q]
  · rw [off_out q, off_out q, upd_ne (fun z => q (by simp [z]))]
theorem same_put {H1 H : Hp} {D : Addr} {o : HO} (n : H1 D = none) (s : Same H1 H) : Same H1 (upd H D o) := fun b o e => by
  rw [upd_ne (ne_of_none e n)]
  exact s _ _ e
theorem yes_of {te : TE} {σ : St} {H : Hp} {k : VK} {kn : Hp → Prop} (h : te σ H k) : tYes σ H (fun b H3 => if b = true then te σ H3 k else kn H3) := by
  unfold tYes
  dsimp only
  rw [if_pos rfl]
  exact h
/-- no test: each element's value is told by R (monotone), whatever else is laid meanwhile -/
theorem lc_all (w : Walk J n G Y) (hGm : ∀ H H', Same H H' → G H → G H') (hG : G H1) (R : Nat → Hp → V → Prop) (hR : ∀ i H H' y, Same H H' → R i H y → R i H' y) (nD : H1 D = none) (hlen : n ≤ 1000)
    (hs : ∀ (i : Nat) x H H' acc, i < n → Same H1 H → H D = some (.lst acc) → Y i H x H' → ∀ k : V → Hp → Prop, (∀ y H2, Same H H2 → R i (off [D] H2) y → k y H2) →
      g x (wipe σ vs) H' fun σ2 H2 => wipe σ2 vs = wipe σ vs ∧ te σ2 H2 k)
    (hd : ∀ ys H, Same H1 H → H D = some (.lst ys) → ys.length = n → (∀ (i : Nat) y, ys[i]? = some y → R i (off [D] H) y) → Qd H)
    (hg : ∀ x σ H Q Q', (∀ σ2 H2, Q σ2 H2 → Q' σ2 H2) → g x σ H Q → g x σ H Q') : LcAsks J g tYes te vs σ H1 D Qd := by
  refine lc_it w (fun i H => Same H1 H ∧ ∃ ys, H D = some (.lst ys) ∧ ys.length = i ∧ ∀ (j : Nat) y, ys[j]? = some y → R j (off [D] H) y) ?_ ?_ ?_ ?_
  · exact ⟨Same.new nD, [], upd_same, rfl, fun j y e => by simp at e⟩
  · intro i H _ h
    exact hGm _ _ h.1 hG
  · rintro i x H H' hi ⟨s, ys, hD, hl, hy⟩ hY
    refine hg _ _ _ _ _ (fun σ2 H2 h => ?_) (hs i x H H' ys hi s hD hY (fun y H4 => ∃ acc, H4 D = some (.lst acc) ∧ acc.length < sizeLine ∧ (Same H1 (upd H4 D (.lst (acc ++ [y]))) ∧ ∃ ys, (upd H4 D (.lst (acc ++ [y]))) D = some (.lst ys) ∧ ys.length = i + 1 ∧ ∀ (j : Nat) y', ys[j]? = some y' → R j (off [D] (upd H4 D (.lst (acc ++ [y])))) y')) ?_)
    · refine ⟨h.1, ?_⟩
      unfold tYes
      dsimp only
      rw [if_pos rfl]
      exact h.2
    · intro y H4 s4 r
      refine ⟨ys, s4 _ _ hD, Nat.lt_of_le_of_lt (show ys.length ≤ 1000 by omega) (by decide), same_put nD (s.trans s4), ys ++ [y], upd_same, by simp [hl], fun j y' e => ?_⟩
      rw [off_one]
      by_cases hj : j < ys.length
      · rw [List.getElem?_append_left hj] at e
        exact hR j _ _ _ (off_mono s4) (hy j y' e)
      · have ej : j = ys.length := by
          have := (List.getElem?_eq_some_iff.mp e).1
          simp at this; omega
        subst ej
        rw [List.getElem?_append_right (Nat.le_refl _)] at e
        simp at e
        subst e
        rw [hl]
        exact r
  · rintro H ⟨s, ys, hD, hl, hy⟩
    exact hd ys H s hD hl hy
/-- element and test are plain functions of the turn -/
theorem lc_pure (w : Walk J n G Y) (hGm : ∀ H H', Same H H' → G H → G H') (hG : G H1) (f : Nat → Option V) (nD : H1 D = none) (hlen : n ≤ 1000)
    (hs : ∀ (i : Nat) x H H', i < n → Same H1 H → Y i H x H' → ∀ (k : V → Hp → Prop) (kn : Hp → Prop), (∀ y H2, f i = some y → Same H H2 → k y H2) → (∀ H2, f i = none → Same H H2 → kn H2) →
      g x (wipe σ vs) H' fun σ2 H2 => wipe σ2 vs = wipe σ vs ∧ tt σ2 H2 fun b H3 => if b = true then te σ2 H3 k else kn H3)
    (hd : ∀ H, Same H1 H → H D = some (.lst ((List.range n).filterMap f)) → Qd H) : LcAsks J g tt te vs σ H1 D Qd := by
  refine lc_it w (fun i H => Same H1 H ∧ H D = some (.lst ((List.range i).filterMap f))) ?_ ?_ ?_ ?_
  · exact ⟨Same.new nD, upd_same⟩
  · intro i H _ h
    exact hGm _ _ h.1 hG
  · rintro i x H H' hi ⟨s, hD⟩ hY
    have hl : ((List.range i).filterMap f).length ≤ i := by
      have := List.length_filterMap_le f (List.range i)
      rwa [List.length_range] at this
    refine hs i x H H' hi s hY _ _ (fun y H4 e s4 => ?_) (fun H4 e s4 => ?_)
    · refine ⟨_, s4 _ _ hD, Nat.lt_of_le_of_lt (show _ ≤ 1000 by omega) (by decide), same_put nD (s.trans s4), ?_⟩
      rw [upd_same, List.range_succ, List.filterMap_append]
      simp [e]
    · refine ⟨s.trans s4, ?_⟩
      rw [s4 _ _ hD, List.range_succ, List.filterMap_append]
      simp [e]
  · rintro H ⟨s, hD⟩
    exact hd H s hD
theorem sqL_mono {K : PySem.W.Frag} {a : Addr} {xs : List V} (H H' : Hp) (s : Same H H') (h : SqL K H a xs) : SqL K H' a xs := s.seq h
theorem sqL2_mono {K : PySem.W.Frag} {a b : Addr} {xs ys : List V} (H H' : Hp) (s : Same H H') (h : SqL K H a xs ∧ SqL K H b ys) : SqL K H' a xs ∧ SqL K H' b ys := ⟨s.seq h.1, s.seq h.2⟩
theorem range_filterMap {α β : Type} (f : α → Option β) : ∀ (xs : List α), (List.range xs.length).filterMap (fun i => xs[i]?.bind f) = xs.filterMap f
  | [] => rfl
  | x :: xs => by
    have ih := range_filterMap f xs
    rw [List.length_cons, List.range_succ_eq_map, List.filterMap_cons, List.filterMap_map, List.filterMap_cons]
    have e : ((fun i => ((x :: xs)[i]?).bind f) ∘ Nat.succ) = fun i => (xs[i]?).bind f := by funext i; simp
    rw [e, ih]
    simp
theorem range_map {α β : Type} (f : α → β) (xs : List α) : (List.range xs.length).filterMap (fun i => xs[i]?.map f) = xs.map f := by
  have e : (fun (i : Nat) => xs[i]?.map f) = fun (i : Nat) => xs[i]?.bind fun x => some (f x) := by funext i; cases xs[i]? <;> rfl
  rw [e, range_filterMap, ← List.filterMap_eq_map]
  rfl
/-- over a list, no test, a plain function of the item -/
theorem lc_map {K : PySem.W.Frag} {a : Addr} {xs : List V} (f : V → V) (hSq : SqL K H1 a xs) (nD : H1 D = none) (hlen : xs.length ≤ 1000)
    (hs : ∀ (i : Nat) x H, xs[i]? = some x → Same H1 H → ∀ k : V → Hp → Prop, (∀ H', Same H H' → k (f x) H') → g x (wipe σ vs) H fun σ2 H2 => wipe σ2 vs = wipe σ vs ∧ te σ2 H2 k)
    (hd : ∀ H, Same H1 H → H D = some (.lst (xs.map f)) → Qd H)
    (hg : ∀ x σ H Q Q', (∀ σ2 H2, Q σ2 H2 → Q' σ2 H2) → g x σ H Q → g x σ H Q') : LcAsks (Itl K a) g tYes te vs σ H1 D Qd := by
  refine lc_pure walk_list sqL_mono hSq (fun i => xs[i]?.map f) nD hlen (fun i x H H' hi s hY k kn hk _ => ?_) (fun H s hD => hd H s (by rw [← range_map]; exact hD))
  obtain ⟨rfl, hx⟩ := hY
  refine hg _ _ _ _ _ (fun σ2 H2 h => ?_) (hs i x H' hx s k fun H2 s2 => hk _ H2 (by rw [hx]; rfl) s2)
  refine ⟨h.1, ?_⟩
  unfold tYes
  dsimp only
  rw [if_pos rfl]
  exact h.2
theorem eq_map_of {α β : Type} {f : α → β} : ∀ {xs : List α} {ys : List β}, ys.length = xs.length → (∀ (i : Nat) y, ys[i]? = some y → ∃ x, xs[i]? = some x ∧ y = f x) → ys = xs.map f
  | [], [], _, _ => rfl
  | [], _ :: _, h, _ => by cases h
  | _ :: _, [], h, _ => by cases h
  | x :: xs, y :: ys, h, r => by
    obtain ⟨x', e, ey⟩ := r 0 y rfl
    cases e
    rw [ey, eq_map_of (xs := xs) (ys := ys) (by simpa using h) fun i y' e => r (i + 1) y' (by simpa using e)]
    rfl
theorem gtup_mono {K : PySem.W.Frag} {i j : Nat} (x : V) (σ : St) (H : Hp) (Q Q' : St → Hp → Prop) (h : ∀ σ2 H2, Q σ2 H2 → Q' σ2 H2) (q : gTup K 2 (gCons (gName i) (gCons (gName j) gNil)) x σ H Q) : gTup K 2 (gCons (gName i) (gCons (gName j) gNil)) x σ H Q' := by
  obtain ⟨a, xs, e, hs, hl, v, r, er, v2, r2, er2, en, q⟩ := q
  exact ⟨a, xs, e, hs, hl, v, r, er, v2, r2, er2, en, h _ _ q⟩
theorem gname_mono {i : Nat} (x : V) (σ : St) (H : Hp) (Q Q' : St → Hp → Prop) (h : ∀ σ2 H2, Q σ2 H2 → Q' σ2 H2) (q : gName i x σ H Q) : gName i x σ H Q' := h _ _ q
end

/-! #### what sort a value is -/
def isInt : V → Bool
  | .int _ => true
  | _ => false
abbrev Kd (K : PySem.W.Frag) (H : Hp) (v : V) (t : String) : Prop := TyX K H v (.type t)
theorem kd_int {K : PySem.W.Frag} {H : Hp} (i : Int) : Kd K H (.int i) "int" := .base (.int i)
theorem kd_list {K : PySem.W.Frag} {H : Hp} {a : Addr} {xs : List V} (h : SqL K H a xs) : Kd K H (.ref a) "list" := by
  rcases h with (h | ⟨o, h⟩) | ⟨o, its, n, hk, hc, _⟩
  · exact .base (.lst h)
  · exact .base (.frz h)
  · exact .kList hk hc
theorem kd_tup {K : PySem.W.Frag} {H : Hp} {a : Addr} {xs : List V} (h : SqT K H a xs) : Kd K H (.ref a) "tuple" := by
  rcases h with (h | ⟨o, h⟩) | ⟨o, its, n, hk, hc, _⟩
  · exact .base (.tup h)
  · exact .fTuple h
  · exact .kTuple hk hc
theorem kd_isInt {K : PySem.W.Frag} {H : Hp} {v : V} {t : String} (h : Kd K H v t) : isInt v = (t == "int") := by
  generalize e : Value.type t = u at h
  cases h with
  | base b =>
    cases b <;> first | (cases e; rfl) | cases e
  | _ => cases e; rfl
theorem isi_of {K : PySem.W.Frag} {H : Hp} {v : V} {t n : String} {b : Bool} {Q : VK} (h : Kd K H v t) (e : PySem.W.kitOne K (.type t) (.type n) = some b) (q : Q (.bl b) H) : rIsi K [v, .ty n] H Q :=
  ⟨v, .ty n, .type t, .type n, b, rfl, .ty n, h, e, q⟩
/-- isinstance(v, int), (v, bool), (v, list), (v, tuple), (v, str) of a value of a known sort -/
theorem kit_kd {K : PySem.W.Frag} {H : Hp} {v : V} {t : String} (h : Kd K H v t) :
    PySem.W.kitOne K (.type t) (.type "int") = some (t == "int" || t == "bool") ∧ PySem.W.kitOne K (.type t) (.type "bool") = some (t == "bool") ∧
    PySem.W.kitOne K (.type t) (.type "list") = some (t == "list") ∧ PySem.W.kitOne K (.type t) (.type "tuple") = some (t == "tuple") ∧ PySem.W.kitOne K (.type t) (.type "str") = some (t == "str") := by
  generalize e : Value.type t = u at h
  cases h with
  | base b =>
    cases b <;> first | (cases e; exact ⟨kit_ty (by decide +kernel), kit_ty (by decide +kernel), kit_ty (by decide +kernel), kit_ty (by decide +kernel), kit_ty (by decide +kernel)⟩) | cases e
  | _ => cases e; exact ⟨kit_ty (by decide +kernel), kit_ty (by decide +kernel), kit_ty (by decide +kernel), kit_ty (by decide +kernel), kit_ty (by decide +kernel)⟩

/-! #### further facts of the top -/
def exOk (ex : List (PySem.W.Frag → Bool)) (K : PySem.W.Frag) : Bool := ex.all fun f => f K
theorem exAll {ex : List (PySem.W.Frag → Bool)} {K : PySem.W.Frag} (i : Nat) {f : PySem.W.Frag → Bool} (c : exOk ex K = true) (h : ex[i]? = some f) : f K = true := List.all_eq_true.mp c f (List.mem_of_getElem? h)
def obsYG (n : Nat) (fa : List He.Fa) (fn : List He.DefD) (ex : List (PySem.W.Frag → Bool)) (g : Addr → Option Obj) : Bool × He.AlD := (exOk ex (He.frG g (He.asD g n)), He.obsD fa fn (He.frG g (He.asD g n)))
def hookY (n : Nat) (fa : List He.Fa) (fn : List He.DefD) (ex : List (PySem.W.Frag → Bool)) : PySem.W.Hook where
  α := Bool × He.AlD
  obs := fun s => obsYG n fa fn ex s.heap.get?
  val := fun _ => (true, He.valD fn)
  says := fun _ h => ∃ K : PySem.W.Frag, K.In h ∧ He.SaysD fa fn K ∧ exOk ex K = true
  of := fun _ _ e => ⟨_, He.frG_in, congrArg Prod.snd e, congrArg Prod.fst e⟩
  keeps := fun _ _ _ ⟨K, hK, c⟩ k => ⟨K, PySem.W.Frag.In.keeps hK k, c⟩
theorem obsYG_eq {n : Nat} {fa : List He.Fa} {fn : List He.DefD} {ex : List (PySem.W.Frag → Bool)} {g : Addr → Option Obj} {s : Shared} (h : ∀ a, g a = s.heap.get? a) : obsYG n fa fn ex g = (hookY n fa fn ex).obs s := by
  have e : g = s.heap.get? := funext h
  rw [e]; rfl
/-- a class without an __init__ of its own -/
structure MkB (K : PySem.W.Frag) (C : Addr) : Prop where
  makes : PySem.W.makesIn K C = true
  init : PySem.W.findIn K (.ref C) "__init__" = some (some (.builtin "object.__init__"))
  kp : PySem.W.keepIn K (.ref C) = true
  top : PySem.W.mroIn K C (.type "object") = some true
def mkB (K : PySem.W.Frag) (C : Addr) : Bool := PySem.W.makesIn K C && (He.eqO (PySem.W.findIn K (.ref C) "__init__") (some (some (.builtin "object.__init__"))) && (PySem.W.keepIn K (.ref C) && decide (PySem.W.mroIn K C (.type "object") = some true)))
theorem mkB_ok {K : PySem.W.Frag} {C : Addr} (h : mkB K C = true) : MkB K C := by
  obtain ⟨h1, h⟩ := He.ba h
  obtain ⟨h2, h⟩ := He.ba h
  obtain ⟨h3, h4⟩ := He.ba h
  exact ⟨h1, He.eqO_ok h2, h3, of_decide_eq_true h4⟩
/-- what isinstance asks of an own class -/
structure IsC (K : PySem.W.Frag) (C : Addr) : Prop where
  cls : PySem.W.findIn K (.ref C) "__class__" = some (some (.builtin "object.__class__"))
  spe : PySem.W.specialIn K (.builtin "object.__class__") "__get__" = some (some (.builtin "getset_descriptor.__get__"))
  tak : PySem.W.takesIn K (.builtin "object.__class__") = some true
  mro : PySem.W.mroIn K C (.type "object") = some true
def isCB (K : PySem.W.Frag) (C : Addr) : Bool := He.eqO (PySem.W.findIn K (.ref C) "__class__") (some (some (.builtin "object.__class__"))) && (He.eqO (PySem.W.specialIn K (.builtin "object.__class__") "__get__") (some (some (.builtin "getset_descriptor.__get__"))) &&
  (decide (PySem.W.takesIn K (.builtin "object.__class__") = some true) && decide (PySem.W.mroIn K C (.type "object") = some true)))
theorem isCB_ok {K : PySem.W.Frag} {C : Addr} (h : isCB K C = true) : IsC K C := by
  obtain ⟨h1, h⟩ := He.ba h
  obtain ⟨h2, h⟩ := He.ba h
  obtain ⟨h3, h4⟩ := He.ba h
  exact ⟨He.eqO_ok h1, He.eqO_ok h2, of_decide_eq_true h3, of_decide_eq_true h4⟩
/-- C(), no __init__: a new instance without attributes -/
def tMkO (C : Addr) : TE := fun _ H Q => ∀ x dx, H x = none → H dx = none → dx ≠ x → Q (.ref x) (upd (upd H dx (.own x)) x (.ins C dx []))
theorem pe_mkO {X : Cx} {x : Str} {C : Addr} {p pos : Pos} (M : MkB X.K C) (hg : Gl X x) (hm : X.mg x = some (.ref C)) (hdb : (x == ("__debug__" : Str)) = false := by decide) : PE X (.Call (.Name x p) [] [] pos) (tMkO C) := by
  refine ⟨fun pins s σ H Q I h => ?_⟩
  refine wpAny_Call_Name_kw (ld_glob I hg hm ?_ hdb)
  refine PySem.W.callWith_K0 I.kIn M.kp ?_
  have hq := h (s.heap.objs.size + 1) s.heap.objs.size (I.hok.fresh (Nat.le_succ _)) (I.hok.fresh (Nat.le_refl _)) (Nat.ne_of_lt (Nat.lt_succ_self _))
  have I2 := Inv.made (C := C) I
  refine wpAny_call (make_map0 I.kIn M.makes M.init (fun self => PySem.W.Looks.of_pure (PySem.W.oi_bind self)) ?_)
  have hL : PySem.W.Looks (model X.prog X.w) ((s.heap.push PySem.W.emptyDict).push (PySem.W.instObj C s.heap.objs.size)) (isInstance (.ref (s.heap.objs.size + 1)) (.type "object")) true := by
    have e2 : ((s.heap.push PySem.W.emptyDict).push (PySem.W.instObj C s.heap.objs.size)).get? (s.heap.objs.size + 1) = some (PySem.W.instObj C s.heap.objs.size) := by
      have := Heap.get?_push_size (s.heap.push PySem.W.emptyDict) (o := PySem.W.instObj C s.heap.objs.size) rfl
      rwa [Heap.size_push] at this
    have t1 : PySem.W.Looks (model X.prog X.w) ((s.heap.push PySem.W.emptyDict).push (PySem.W.instObj C s.heap.objs.size)) (typeOf (.ref (s.heap.objs.size + 1))) (.ref C) := (PySem.W.Looks.ld e2).andThen .now
    exact t1.andThen (PySem.W.looks_mroIn I2.kIn M.top)
  refine codeAny_call_builtin PySem.W.oi_plain PySem.W.entry_oi (@PySem.W.check_slot (model X.prog X.w) _ _ _ "object.__init__" "object" "__init__" _ [] [] _ PySem.W.oi_kind PySem.W.oi_split hL (PySem.W.oi_args _) ?_)
  rw [PySem.W.oi_run]
  exact wpAny_pure (And.intro rfl ⟨V.ref (s.heap.objs.size + 1), _, I2, rfl, hq⟩)
end Song

/-! ### Pl1: plain lists: greatest ones, songs in turn (no program in sight) -/
namespace Song
def maxL : List Int → Int
  | [] => 0
  | n :: r => r.foldl max n
theorem foldl_max_le : ∀ (r : List Int) (n m : Int), n ≤ m → (∀ y ∈ r, y ≤ m) → r.foldl max n ≤ m
  | [], _, _, h, _ => h
  | y :: r, n, m, h, hr => foldl_max_le r (max n y) m (by have := hr y (by simp); omega) fun z hz => hr z (by simp [hz])
theorem le_foldl_max : ∀ (r : List Int) (n : Int), n ≤ r.foldl max n ∧ ∀ y ∈ r, y ≤ r.foldl max n
  | [], n => ⟨Int.le_refl _, fun y h => by cases h⟩
  | y :: r, n => by
    obtain ⟨h1, h2⟩ := le_foldl_max r (max n y)
    have e : (y :: r).foldl max n = r.foldl max (max n y) := rfl
    rw [e]
    refine ⟨by omega, fun z hz => ?_⟩
    rcases List.mem_cons.mp hz with q | q
    · omega
    · exact h2 z q
theorem foldl_max_mem : ∀ (r : List Int) (n : Int), r.foldl max n ∈ n :: r
  | [], n => by simp
  | y :: r, n => by
    have h := foldl_max_mem r (max n y)
    have e : (y :: r).foldl max n = r.foldl max (max n y) := rfl
    rw [e]
    rcases List.mem_cons.mp h with q | q
    · rw [q]
      by_cases c : n ≤ y
      · rw [Int.max_eq_right c]; simp
      · rw [Int.max_eq_left (by omega)]; simp
    · simp [q]
theorem maxL_ge {ns : List Int} {y : Int} (h : y ∈ ns) : y ≤ maxL ns := by
  cases ns with
  | nil => cases h
  | cons n r =>
    obtain ⟨h1, h2⟩ := le_foldl_max r n
    rcases List.mem_cons.mp h with q | q
    · rw [q]; exact h1
    · exact h2 y q
theorem maxL_mem {ns : List Int} (h : ns ≠ []) : maxL ns ∈ ns := by
  cases ns with
  | nil => exact absurd rfl h
  | cons n r => exact foldl_max_mem r n
theorem maxL_eq {ns : List Int} {m : Int} (h : m ∈ ns) (hm : ∀ y ∈ ns, y ≤ m) : m = maxL ns := by
  have h1 := maxL_ge h
  have h2 := hm _ (maxL_mem (fun e => by rw [e] at h; cases h))
  omega
/-- the least round that a singer's next song can have -/
def floorOf (last : List Int) (going s : Int) : Int := max going (last.getD s.toNat 0 + 1)
def roundFor (last : List Int) (going : Int) (ss : List Int) : Int := maxL (ss.map (floorOf last going))
/-- the law's own way to say it -/
theorem roundFor_law {last : List Int} {going : Int} {ss : List Int} (h : ss ≠ []) : maxL (going :: ss.map fun s => last.getD s.toNat 0 + 1) = roundFor last going ss := by
  have h1 : ∀ s ∈ ss, floorOf last going s ≤ roundFor last going ss := fun s hs => maxL_ge (List.mem_map.mpr ⟨s, hs, rfl⟩)
  have h2 : going ≤ maxL (going :: ss.map fun s => last.getD s.toNat 0 + 1) := maxL_ge (by simp)
  have h3 : ∀ s ∈ ss, last.getD s.toNat 0 + 1 ≤ maxL (going :: ss.map fun s => last.getD s.toNat 0 + 1) := fun s hs => maxL_ge (List.mem_cons_of_mem _ (List.mem_map.mpr ⟨s, hs, rfl⟩))
  have h4 := maxL_mem (ns := going :: ss.map fun s => last.getD s.toNat 0 + 1) (by simp)
  have h5 : roundFor last going ss ∈ ss.map (floorOf last going) := maxL_mem (by simpa using h)
  obtain ⟨s, hs, e⟩ := List.mem_map.mp h5
  obtain ⟨s0, hs0⟩ : ∃ s0, s0 ∈ ss := by
    cases ss with
    | nil => exact absurd rfl h
    | cons a r => exact ⟨a, by simp⟩
  have f0 := h1 s0 hs0
  have f1 := h3 s hs
  unfold floorOf at e f0
  rcases List.mem_cons.mp h4 with q | q
  · omega
  · obtain ⟨s1, hs1, e1⟩ := List.mem_map.mp q
    have f2 := h1 s1 hs1
    unfold floorOf at f2
    omega
/-! #### pairs in order -/
def ltPr (a b : Int × Int) : Bool := decide (a.1 < b.1) || (decide (a.1 = b.1) && decide (a.2 < b.2))
theorem ltPr_iff {a b : Int × Int} : ltPr a b = true ↔ a.1 < b.1 ∨ (a.1 = b.1 ∧ a.2 < b.2) := by
  unfold ltPr
  simp
theorem ltPr_false {a b : Int × Int} : ltPr a b = false ↔ ¬ (a.1 < b.1 ∨ (a.1 = b.1 ∧ a.2 < b.2)) := by
  rw [← ltPr_iff]; simp
theorem ltPr_anti {a b : Int × Int} (h1 : ltPr a b = false) (h2 : ltPr b a = false) : a = b := by
  rw [ltPr_false] at h1 h2
  obtain ⟨a1, a2⟩ := a
  obtain ⟨b1, b2⟩ := b
  simp only at h1 h2
  have e1 : a1 = b1 := by omega
  have e2 : a2 = b2 := by omega
  rw [e1, e2]
def SortedP (l : List (Int × Int)) : Prop := l.Pairwise fun x y => ltPr y x = false
theorem sortedP_unique : ∀ {l m : List (Int × Int)}, l.Perm m → SortedP l → SortedP m → l = m
  | [], m, p, _, _ => (List.nil_perm.mp p).symm ▸ rfl
  | x :: l, [], p, _, _ => absurd p.length_eq (by simp)
  | x :: l, y :: m, p, h1, h2 => by
    obtain ⟨a1, a2⟩ := List.pairwise_cons.mp h1
    obtain ⟨b1, b2⟩ := List.pairwise_cons.mp h2
    have e : x = y := by
      have hx : x ∈ y :: m := p.subset (by simp)
      have hy : y ∈ x :: l := p.symm.subset (by simp)
      rcases List.mem_cons.mp hx with q | q
      · exact q
      rcases List.mem_cons.mp hy with q' | q'
      · exact q'.symm
      exact ltPr_anti (b1 x q) (a1 y q')
    subst e
    rw [sortedP_unique (List.perm_cons x |>.mp p) a2 b2]
def insP (x : Int × Int) : List (Int × Int) → List (Int × Int)
  | [] => [x]
  | y :: r => if ltPr y x then y :: insP x r else x :: y :: r
def sortP : List (Int × Int) → List (Int × Int)
  | [] => []
  | x :: r => insP x (sortP r)
theorem insP_perm (x : Int × Int) : ∀ l, (insP x l).Perm (x :: l)
  | [] => List.Perm.refl _
  | y :: r => by
    unfold insP
    split
    · exact ((insP_perm x r).cons y).trans (List.Perm.swap x y r)
    · exact List.Perm.refl _
theorem sortP_perm : ∀ l, (sortP l).Perm l
  | [] => List.Perm.refl _
  | x :: r => (insP_perm x (sortP r)).trans ((sortP_perm r).cons x)
theorem insP_sorted (x : Int × Int) : ∀ l, SortedP l → SortedP (insP x l)
  | [], _ => by
    unfold insP SortedP
    exact List.pairwise_singleton _ _
  | y :: r, h => by
    obtain ⟨a1, a2⟩ := List.pairwise_cons.mp h
    unfold insP
    split
    · rename_i c
      refine List.pairwise_cons.mpr ⟨fun z hz => ?_, insP_sorted x r a2⟩
      rcases List.mem_cons.mp ((insP_perm x r).subset hz) with q | q
      · rw [q, ltPr_false]
        rw [ltPr_iff] at c
        omega
      · exact a1 z q
    · rename_i c
      have c : ltPr y x = false := by simpa using c
      refine List.pairwise_cons.mpr ⟨fun z hz => ?_, h⟩
      rcases List.mem_cons.mp hz with q | q
      · rw [q]; exact c
      · have := a1 z q
        rw [ltPr_false] at this c ⊢
        omega
theorem sortP_sorted : ∀ l, SortedP (sortP l)
  | [] => List.Pairwise.nil
  | x :: r => insP_sorted x _ (sortP_sorted r)
theorem sortP_eq {l m : List (Int × Int)} (p : l.Perm m) (h : SortedP l) : l = sortP m := sortedP_unique (p.trans (sortP_perm m).symm) h (sortP_sorted m)
/-- the songs that wait, in turn -/
def inTurn (rounds waits : List Int) : List Int := (sortP (waits.map fun s => (rounds.getD s.toNat 0, s))).map (·.2)
theorem inTurn_perm (rounds waits : List Int) : (inTurn rounds waits).Perm waits := by
  unfold inTurn
  have h := (sortP_perm (waits.map fun s => (rounds.getD s.toNat 0, s))).map (·.2)
  rw [List.map_map] at h
  have e : waits.map ((fun x : Int × Int => x.2) ∘ fun s => (rounds.getD s.toNat 0, s)) = waits := by
    rw [show ((fun x : Int × Int => x.2) ∘ fun s => (rounds.getD s.toNat 0, s)) = id from rfl, List.map_id]
  rw [e] at h
  exact h
end Song

namespace Song
open PySem L2
def top (i : Nat) : Stmt := PySem.Challenge.pw_songturns_k05_whole_spaced.main.body.getD i (.Pass ⟨0, 0, 0, 0⟩)
def inC (st : Stmt) (i : Nat) : Stmt := match st with
  | .ClassDef _ _ _ b _ _ _ _ _ _ _ => b.getD i (.Pass ⟨0, 0, 0, 0⟩)
  | _ => .Pass ⟨0, 0, 0, 0⟩
abbrev s_counts_of : Stmt := top 2
def d_counts_of : He.DefD := ⟨("counts_of", none), "counts_of", "counts_of", defArgs s_counts_of, defBody s_counts_of, defScope s_counts_of, [], []⟩
abbrev s_bars : Stmt := top 3
def d_bars : He.DefD := ⟨("bars", none), "bars", "bars", defArgs s_bars, defBody s_bars, defScope s_bars, [], []⟩
abbrev s_barring : Stmt := top 4
def d_barring : He.DefD := ⟨("barring", none), "barring", "barring", defArgs s_barring, defBody s_barring, defScope s_barring, [], []⟩
abbrev s_least_between : Stmt := top 5
def d_least_between : He.DefD := ⟨("least_between", none), "least_between", "least_between", defArgs s_least_between, defBody s_least_between, defScope s_least_between, [], []⟩
abbrev s_keeps : Stmt := top 6
def d_keeps : He.DefD := ⟨("keeps", none), "keeps", "keeps", defArgs s_keeps, defBody s_keeps, defScope s_keeps, [], []⟩
abbrev s_turns_in : Stmt := top 7
def d_turns_in : He.DefD := ⟨("turns_in", none), "turns_in", "turns_in", defArgs s_turns_in, defBody s_turns_in, defScope s_turns_in, [], []⟩
abbrev s_order_for : Stmt := top 8
def d_order_for : He.DefD := ⟨("order_for", none), "order_for", "order_for", defArgs s_order_for, defBody s_order_for, defScope s_order_for, [], []⟩
abbrev s_is_whole : Stmt := top 21
def d_is_whole : He.DefD := ⟨("is_whole", none), "is_whole", "is_whole", defArgs s_is_whole, defBody s_is_whole, defScope s_is_whole, [], []⟩
abbrev s_are_numbers : Stmt := top 22
def d_are_numbers : He.DefD := ⟨("are_numbers", none), "are_numbers", "are_numbers", defArgs s_are_numbers, defBody s_are_numbers, defScope s_are_numbers, [], []⟩
abbrev s_check_many : Stmt := top 23
def d_check_many : He.DefD := ⟨("check_many", none), "check_many", "check_many", defArgs s_check_many, defBody s_check_many, defScope s_check_many, [], []⟩
abbrev s_are_singers : Stmt := top 24
def d_are_singers : He.DefD := ⟨("are_singers", none), "are_singers", "are_singers", defArgs s_are_singers, defBody s_are_singers, defScope s_are_singers, [], []⟩
abbrev s_check_songs : Stmt := top 25
def d_check_songs : He.DefD := ⟨("check_songs", none), "check_songs", "check_songs", defArgs s_check_songs, defBody s_check_songs, defScope s_check_songs, [], []⟩
abbrev s_floor_of : Stmt := top 27
def d_floor_of : He.DefD := ⟨("floor_of", none), "floor_of", "floor_of", defArgs s_floor_of, defBody s_floor_of, defScope s_floor_of, [], []⟩
abbrev s_round_for : Stmt := top 28
def d_round_for : He.DefD := ⟨("round_for", none), "round_for", "round_for", defArgs s_round_for, defBody s_round_for, defScope s_round_for, [], []⟩
abbrev s_in_turn : Stmt := top 29
def d_in_turn : He.DefD := ⟨("in_turn", none), "in_turn", "in_turn", defArgs s_in_turn, defBody s_in_turn, defScope s_in_turn, [], []⟩
abbrev s_Evening___init__ : Stmt := inC (top 31) 0
def d_Evening___init__ : He.DefD := ⟨("Evening", some "__init__"), "__init__", "Evening.__init__", defArgs s_Evening___init__, defBody s_Evening___init__, defScope s_Evening___init__, [], []⟩
abbrev s_Evening_wish : Stmt := inC (top 31) 1
def d_Evening_wish : He.DefD := ⟨("Evening", some "wish"), "wish", "Evening.wish", defArgs s_Evening_wish, defBody s_Evening_wish, defScope s_Evening_wish, [], []⟩
abbrev s_Evening_sing : Stmt := inC (top 31) 2
def d_Evening_sing : He.DefD := ⟨("Evening", some "sing"), "sing", "Evening.sing", defArgs s_Evening_sing, defBody s_Evening_sing, defScope s_Evening_sing, [], []⟩
abbrev s_Evening_look_at : Stmt := inC (top 31) 3
def d_Evening_look_at : He.DefD := ⟨("Evening", some "look_at"), "look_at", "Evening.look_at", defArgs s_Evening_look_at, defBody s_Evening_look_at, defScope s_Evening_look_at, [], []⟩
abbrev s_Evening_withdraw : Stmt := inC (top 31) 4
def d_Evening_withdraw : He.DefD := ⟨("Evening", some "withdraw"), "withdraw", "Evening.withdraw", defArgs s_Evening_withdraw, defBody s_Evening_withdraw, defScope s_Evening_withdraw, [], []⟩
abbrev s_Evening_waits : Stmt := inC (top 31) 6
def d_Evening_waits : He.DefD := ⟨("Evening", some "waits"), "waits", "Evening.waits", defArgs s_Evening_waits, defBody s_Evening_waits, defScope s_Evening_waits, [], []⟩
abbrev s_Evening_tale : Stmt := inC (top 31) 10
def d_Evening_tale : He.DefD := ⟨("Evening", some "tale"), "tale", "Evening.tale", defArgs s_Evening_tale, defBody s_Evening_tale, defScope s_Evening_tale, [], []⟩
abbrev s_first_wrong : Stmt := top 33
def d_first_wrong : He.DefD := ⟨("first_wrong", none), "first_wrong", "first_wrong", defArgs s_first_wrong, defBody s_first_wrong, defScope s_first_wrong, [], []⟩
abbrev s_Right_shows : Stmt := inC (top 36) 0
def d_Right_shows : He.DefD := ⟨("Right", some "shows"), "shows", "Right.shows", defArgs s_Right_shows, defBody s_Right_shows, defScope s_Right_shows, [], []⟩
abbrev s_Wrong___init__ : Stmt := inC (top 37) 0
def d_Wrong___init__ : He.DefD := ⟨("Wrong", some "__init__"), "__init__", "Wrong.__init__", defArgs s_Wrong___init__, defBody s_Wrong___init__, defScope s_Wrong___init__, [], []⟩
abbrev s_Wrong_shows : Stmt := inC (top 37) 1
def d_Wrong_shows : He.DefD := ⟨("Wrong", some "shows"), "shows", "Wrong.shows", defArgs s_Wrong_shows, defBody s_Wrong_shows, defScope s_Wrong_shows, [], []⟩
abbrev s_Spaced___init__ : Stmt := inC (top 38) 0
def d_Spaced___init__ : He.DefD := ⟨("Spaced", some "__init__"), "__init__", "Spaced.__init__", defArgs s_Spaced___init__, defBody s_Spaced___init__, defScope s_Spaced___init__, [], []⟩
abbrev s_Spaced_shows : Stmt := inC (top 38) 1
def d_Spaced_shows : He.DefD := ⟨("Spaced", some "shows"), "shows", "Spaced.shows", defArgs s_Spaced_shows, defBody s_Spaced_shows, defScope s_Spaced_shows, [], []⟩
abbrev s_Barred___init__ : Stmt := inC (top 39) 0
def d_Barred___init__ : He.DefD := ⟨("Barred", some "__init__"), "__init__", "Barred.__init__", defArgs s_Barred___init__, defBody s_Barred___init__, defScope s_Barred___init__, [], []⟩
abbrev s_Barred_shows : Stmt := inC (top 39) 1
def d_Barred_shows : He.DefD := ⟨("Barred", some "shows"), "shows", "Barred.shows", defArgs s_Barred_shows, defBody s_Barred_shows, defScope s_Barred_shows, [], []⟩
abbrev s_spaced : Stmt := top 41
def d_spaced : He.DefD := ⟨("spaced", none), "spaced", "spaced", defArgs s_spaced, defBody s_spaced, defScope s_spaced, [], []⟩
abbrev s__law_cell_at : Stmt := top 43
def d__law_cell_at : He.DefD := ⟨("_law_cell_at", none), "_law_cell_at", "_law_cell_at", defArgs s__law_cell_at, defBody s__law_cell_at, defScope s__law_cell_at, [], []⟩
abbrev s__law_draw : Stmt := top 44
def d__law_draw : He.DefD := ⟨("_law_draw", none), "_law_draw", "_law_draw", defArgs s__law_draw, defBody s__law_draw, defScope s__law_draw, [], []⟩
abbrev s__law_value : Stmt := top 45
def d__law_value : He.DefD := ⟨("_law_value", none), "_law_value", "_law_value", defArgs s__law_value, defBody s__law_value, defScope s__law_value, [], []⟩
abbrev s__law_says : Stmt := top 46
def d__law_says : He.DefD := ⟨("_law_says", none), "_law_says", "_law_says", defArgs s__law_says, defBody s__law_says, defScope s__law_says, [], []⟩
abbrev s__law_songs : Stmt := top 47
def d__law_songs : He.DefD := ⟨("_law_songs", none), "_law_songs", "_law_songs", defArgs s__law_songs, defBody s__law_songs, defScope s__law_songs, [], []⟩
abbrev s__law_keeps : Stmt := top 48
def d__law_keeps : He.DefD := ⟨("_law_keeps", none), "_law_keeps", "_law_keeps", defArgs s__law_keeps, defBody s__law_keeps, defScope s__law_keeps, [], []⟩
abbrev s__law_bars : Stmt := top 49
def d__law_bars : He.DefD := ⟨("_law_bars", none), "_law_bars", "_law_bars", defArgs s__law_bars, defBody s__law_bars, defScope s__law_bars, [], []⟩
abbrev s__law_due : Stmt := top 50
def d__law_due : He.DefD := ⟨("_law_due", none), "_law_due", "_law_due", defArgs s__law_due, defBody s__law_due, defScope s__law_due, [], []⟩
abbrev s__law_can : Stmt := top 51
def d__law_can : He.DefD := ⟨("_law_can", none), "_law_can", "_law_can", defArgs s__law_can, defBody s__law_can, defScope s__law_can, [], []⟩
abbrev s__law_right : Stmt := top 52
def d__law_right : He.DefD := ⟨("_law_right", none), "_law_right", "_law_right", defArgs s__law_right, defBody s__law_right, defScope s__law_right, [], []⟩
abbrev s_law : Stmt := top 53
def d_law : He.DefD := ⟨("law", none), "law", "law", defArgs s_law, defBody s_law, defScope s_law, [], []⟩
structure Tx (K : PySem.W.Frag) (mg : Str → Option Value) : Prop where
  g_counts_of : mg "counts_of" = some (.ref (He.ga K "counts_of"))
  g_bars : mg "bars" = some (.ref (He.ga K "bars"))
  g_barring : mg "barring" = some (.ref (He.ga K "barring"))
  g_least_between : mg "least_between" = some (.ref (He.ga K "least_between"))
  g_keeps : mg "keeps" = some (.ref (He.ga K "keeps"))
  g_turns_in : mg "turns_in" = some (.ref (He.ga K "turns_in"))
  g_order_for : mg "order_for" = some (.ref (He.ga K "order_for"))
  g_TurnError : mg "TurnError" = some (.ref (He.ga K "TurnError"))
  g_BadMany : mg "BadMany" = some (.ref (He.ga K "BadMany"))
  g_BadSingers : mg "BadSingers" = some (.ref (He.ga K "BadSingers"))
  g_BadSong : mg "BadSong" = some (.ref (He.ga K "BadSong"))
  g_BadSongs : mg "BadSongs" = some (.ref (He.ga K "BadSongs"))
  g_BadGap : mg "BadGap" = some (.ref (He.ga K "BadGap"))
  g_TooMany : mg "TooMany" = some (.ref (He.ga K "TooMany"))
  c_MOST_SINGERS : ∃ t, mg "MOST_SINGERS" = some (.int 6 t)
  c_MOST_OF_SONG : ∃ t, mg "MOST_OF_SONG" = some (.int 3 t)
  c_MOST_SONGS : ∃ t, mg "MOST_SONGS" = some (.int 24 t)
  g_is_whole : mg "is_whole" = some (.ref (He.ga K "is_whole"))
  g_are_numbers : mg "are_numbers" = some (.ref (He.ga K "are_numbers"))
  g_check_many : mg "check_many" = some (.ref (He.ga K "check_many"))
  g_are_singers : mg "are_singers" = some (.ref (He.ga K "are_singers"))
  g_check_songs : mg "check_songs" = some (.ref (He.ga K "check_songs"))
  g_floor_of : mg "floor_of" = some (.ref (He.ga K "floor_of"))
  g_round_for : mg "round_for" = some (.ref (He.ga K "round_for"))
  g_in_turn : mg "in_turn" = some (.ref (He.ga K "in_turn"))
  g_Evening : mg "Evening" = some (.ref (He.ga K "Evening"))
  cls_Evening : Cls K (He.ga K "Evening")
  mk_Evening : Mk K (He.ga K "Evening") (He.ma K (He.ga K "Evening") "__init__")
  me_Evening_wish : Meth K (He.ga K "Evening") "wish" (He.ma K (He.ga K "Evening") "wish")
  me_Evening_sing : Meth K (He.ga K "Evening") "sing" (He.ma K (He.ga K "Evening") "sing")
  me_Evening_look_at : Meth K (He.ga K "Evening") "look_at" (He.ma K (He.ga K "Evening") "look_at")
  me_Evening_withdraw : Meth K (He.ga K "Evening") "withdraw" (He.ma K (He.ga K "Evening") "withdraw")
  me_Evening_waits : Meth K (He.ga K "Evening") "waits" (He.ma K (He.ga K "Evening") "waits")
  me_Evening_tale : Meth K (He.ga K "Evening") "tale" (He.ma K (He.ga K "Evening") "tale")
  na_Evening_came : NoAttr K (He.ga K "Evening") "came"
  na_Evening_going : NoAttr K (He.ga K "Evening") "going"
  na_Evening_last : NoAttr K (He.ga K "Evening") "last"
  na_Evening_rounds : NoAttr K (He.ga K "Evening") "rounds"
  na_Evening_waiting : NoAttr K (He.ga K "Evening") "waiting"
  g_first_wrong : mg "first_wrong" = some (.ref (He.ga K "first_wrong"))
  g_Answer : mg "Answer" = some (.ref (He.ga K "Answer"))
  cls_Answer : Cls K (He.ga K "Answer")
  g_Right : mg "Right" = some (.ref (He.ga K "Right"))
  cls_Right : Cls K (He.ga K "Right")
  me_Right_shows : Meth K (He.ga K "Right") "shows" (He.ma K (He.ga K "Right") "shows")
  g_Wrong : mg "Wrong" = some (.ref (He.ga K "Wrong"))
  cls_Wrong : Cls K (He.ga K "Wrong")
  mk_Wrong : Mk K (He.ga K "Wrong") (He.ma K (He.ga K "Wrong") "__init__")
  me_Wrong_shows : Meth K (He.ga K "Wrong") "shows" (He.ma K (He.ga K "Wrong") "shows")
  na_Wrong_place : NoAttr K (He.ga K "Wrong") "place"
  g_Spaced : mg "Spaced" = some (.ref (He.ga K "Spaced"))
  cls_Spaced : Cls K (He.ga K "Spaced")
  mk_Spaced : Mk K (He.ga K "Spaced") (He.ma K (He.ga K "Spaced") "__init__")
  me_Spaced_shows : Meth K (He.ga K "Spaced") "shows" (He.ma K (He.ga K "Spaced") "shows")
  na_Spaced_order : NoAttr K (He.ga K "Spaced") "order"
  g_Barred : mg "Barred" = some (.ref (He.ga K "Barred"))
  cls_Barred : Cls K (He.ga K "Barred")
  mk_Barred : Mk K (He.ga K "Barred") (He.ma K (He.ga K "Barred") "__init__")
  me_Barred_shows : Meth K (He.ga K "Barred") "shows" (He.ma K (He.ga K "Barred") "shows")
  na_Barred_singers : NoAttr K (He.ga K "Barred") "singers"
  g_spaced : mg "spaced" = some (.ref (He.ga K "spaced"))
  g__law_cell_at : mg "_law_cell_at" = some (.ref (He.ga K "_law_cell_at"))
  g__law_draw : mg "_law_draw" = some (.ref (He.ga K "_law_draw"))
  g__law_value : mg "_law_value" = some (.ref (He.ga K "_law_value"))
  g__law_says : mg "_law_says" = some (.ref (He.ga K "_law_says"))
  g__law_songs : mg "_law_songs" = some (.ref (He.ga K "_law_songs"))
  g__law_keeps : mg "_law_keeps" = some (.ref (He.ga K "_law_keeps"))
  g__law_bars : mg "_law_bars" = some (.ref (He.ga K "_law_bars"))
  g__law_due : mg "_law_due" = some (.ref (He.ga K "_law_due"))
  g__law_can : mg "_law_can" = some (.ref (He.ga K "_law_can"))
  g__law_right : mg "_law_right" = some (.ref (He.ga K "_law_right"))
  g_law : mg "law" = some (.ref (He.ga K "law"))
  len : mg "len" = none
  isinstance : mg "isinstance" = none
  all : mg "all" = none
  any : mg "any" = none
  range : mg "range" = none
  sorted : mg "sorted" = none
  set : mg "set" = none
  max : mg "max" = none
  min : mg "min" = none
  list : mg "list" = none
  enumerate : mg "enumerate" = none
  zip : mg "zip" = none
  int : mg "int" = none
  bool : mg "bool" = none
  tuple : mg "tuple" = none
  str : mg "str" = none
  dict : mg "dict" = none
  abs : mg "abs" = none
  d_counts_of : ∃ fd, FnP K "counts_of" "counts_of" s_counts_of (He.ga K "counts_of") fd
  d_bars : ∃ fd, FnP K "bars" "bars" s_bars (He.ga K "bars") fd
  d_barring : ∃ fd, FnP K "barring" "barring" s_barring (He.ga K "barring") fd
  d_least_between : ∃ fd, FnP K "least_between" "least_between" s_least_between (He.ga K "least_between") fd
  d_keeps : ∃ fd, FnP K "keeps" "keeps" s_keeps (He.ga K "keeps") fd
  d_turns_in : ∃ fd, FnP K "turns_in" "turns_in" s_turns_in (He.ga K "turns_in") fd
  d_order_for : ∃ fd, FnP K "order_for" "order_for" s_order_for (He.ga K "order_for") fd
  d_is_whole : ∃ fd, FnP K "is_whole" "is_whole" s_is_whole (He.ga K "is_whole") fd
  d_are_numbers : ∃ fd, FnP K "are_numbers" "are_numbers" s_are_numbers (He.ga K "are_numbers") fd
  d_check_many : ∃ fd, FnP K "check_many" "check_many" s_check_many (He.ga K "check_many") fd
  d_are_singers : ∃ fd, FnP K "are_singers" "are_singers" s_are_singers (He.ga K "are_singers") fd
  d_check_songs : ∃ fd, FnP K "check_songs" "check_songs" s_check_songs (He.ga K "check_songs") fd
  d_floor_of : ∃ fd, FnP K "floor_of" "floor_of" s_floor_of (He.ga K "floor_of") fd
  d_round_for : ∃ fd, FnP K "round_for" "round_for" s_round_for (He.ga K "round_for") fd
  d_in_turn : ∃ fd, FnP K "in_turn" "in_turn" s_in_turn (He.ga K "in_turn") fd
  d_Evening___init__ : ∃ fd, FnP K "__init__" "Evening.__init__" s_Evening___init__ (He.ma K (He.ga K "Evening") "__init__") fd
  d_Evening_wish : ∃ fd, FnP K "wish" "Evening.wish" s_Evening_wish (He.ma K (He.ga K "Evening") "wish") fd
  d_Evening_sing : ∃ fd, FnP K "sing" "Evening.sing" s_Evening_sing (He.ma K (He.ga K "Evening") "sing") fd
  d_Evening_look_at : ∃ fd, FnP K "look_at" "Evening.look_at" s_Evening_look_at (He.ma K (He.ga K "Evening") "look_at") fd
  d_Evening_withdraw : ∃ fd, FnP K "withdraw" "Evening.withdraw" s_Evening_withdraw (He.ma K (He.ga K "Evening") "withdraw") fd
  d_Evening_waits : ∃ fd, FnP K "waits" "Evening.waits" s_Evening_waits (He.ma K (He.ga K "Evening") "waits") fd
  d_Evening_tale : ∃ fd, FnP K "tale" "Evening.tale" s_Evening_tale (He.ma K (He.ga K "Evening") "tale") fd
  d_first_wrong : ∃ fd, FnP K "first_wrong" "first_wrong" s_first_wrong (He.ga K "first_wrong") fd
  d_Right_shows : ∃ fd, FnP K "shows" "Right.shows" s_Right_shows (He.ma K (He.ga K "Right") "shows") fd
  d_Wrong___init__ : ∃ fd, FnP K "__init__" "Wrong.__init__" s_Wrong___init__ (He.ma K (He.ga K "Wrong") "__init__") fd
  d_Wrong_shows : ∃ fd, FnP K "shows" "Wrong.shows" s_Wrong_shows (He.ma K (He.ga K "Wrong") "shows") fd
  d_Spaced___init__ : ∃ fd, FnP K "__init__" "Spaced.__init__" s_Spaced___init__ (He.ma K (He.ga K "Spaced") "__init__") fd
  d_Spaced_shows : ∃ fd, FnP K "shows" "Spaced.shows" s_Spaced_shows (He.ma K (He.ga K "Spaced") "shows") fd
  d_Barred___init__ : ∃ fd, FnP K "__init__" "Barred.__init__" s_Barred___init__ (He.ma K (He.ga K "Barred") "__init__") fd
  d_Barred_shows : ∃ fd, FnP K "shows" "Barred.shows" s_Barred_shows (He.ma K (He.ga K "Barred") "shows") fd
  d_spaced : ∃ fd, FnP K "spaced" "spaced" s_spaced (He.ga K "spaced") fd
  d__law_cell_at : ∃ fd, FnP K "_law_cell_at" "_law_cell_at" s__law_cell_at (He.ga K "_law_cell_at") fd
  d__law_draw : ∃ fd, FnP K "_law_draw" "_law_draw" s__law_draw (He.ga K "_law_draw") fd
  d__law_value : ∃ fd, FnP K "_law_value" "_law_value" s__law_value (He.ga K "_law_value") fd
  d__law_says : ∃ fd, FnP K "_law_says" "_law_says" s__law_says (He.ga K "_law_says") fd
  d__law_songs : ∃ fd, FnP K "_law_songs" "_law_songs" s__law_songs (He.ga K "_law_songs") fd
  d__law_keeps : ∃ fd, FnP K "_law_keeps" "_law_keeps" s__law_keeps (He.ga K "_law_keeps") fd
  d__law_bars : ∃ fd, FnP K "_law_bars" "_law_bars" s__law_bars (He.ga K "_law_bars") fd
  d__law_due : ∃ fd, FnP K "_law_due" "_law_due" s__law_due (He.ga K "_law_due") fd
  d__law_can : ∃ fd, FnP K "_law_can" "_law_can" s__law_can (He.ga K "_law_can") fd
  d__law_right : ∃ fd, FnP K "_law_right" "_law_right" s__law_right (He.ga K "_law_right") fd
  d_law : ∃ fd, FnP K "law" "law" s_law (He.ga K "law") fd
  mkb_Answer : MkB K (He.ga K "Answer")
  mkb_Right : MkB K (He.ga K "Right")
  ic_Evening : IsC K (He.ga K "Evening")
  ki_Evening_Answer : PySem.W.kitOne K (.ref (He.ga K "Evening")) (.ref (He.ga K "Answer")) = some false
  ki_Evening_Barred : PySem.W.kitOne K (.ref (He.ga K "Evening")) (.ref (He.ga K "Barred")) = some false
  ki_Evening_Right : PySem.W.kitOne K (.ref (He.ga K "Evening")) (.ref (He.ga K "Right")) = some false
  ki_Evening_Spaced : PySem.W.kitOne K (.ref (He.ga K "Evening")) (.ref (He.ga K "Spaced")) = some false
  ki_Evening_Wrong : PySem.W.kitOne K (.ref (He.ga K "Evening")) (.ref (He.ga K "Wrong")) = some false
  ic_Answer : IsC K (He.ga K "Answer")
  ki_Answer_Answer : PySem.W.kitOne K (.ref (He.ga K "Answer")) (.ref (He.ga K "Answer")) = some true
  ki_Answer_Barred : PySem.W.kitOne K (.ref (He.ga K "Answer")) (.ref (He.ga K "Barred")) = some false
  ki_Answer_Right : PySem.W.kitOne K (.ref (He.ga K "Answer")) (.ref (He.ga K "Right")) = some false
  ki_Answer_Spaced : PySem.W.kitOne K (.ref (He.ga K "Answer")) (.ref (He.ga K "Spaced")) = some false
  ki_Answer_Wrong : PySem.W.kitOne K (.ref (He.ga K "Answer")) (.ref (He.ga K "Wrong")) = some false
  ic_Right : IsC K (He.ga K "Right")
  ki_Right_Answer : PySem.W.kitOne K (.ref (He.ga K "Right")) (.ref (He.ga K "Answer")) = some true
  ki_Right_Barred : PySem.W.kitOne K (.ref (He.ga K "Right")) (.ref (He.ga K "Barred")) = some false
  ki_Right_Right : PySem.W.kitOne K (.ref (He.ga K "Right")) (.ref (He.ga K "Right")) = some true
  ki_Right_Spaced : PySem.W.kitOne K (.ref (He.ga K "Right")) (.ref (He.ga K "Spaced")) = some false
  ki_Right_Wrong : PySem.W.kitOne K (.ref (He.ga K "Right")) (.ref (He.ga K "Wrong")) = some false
  ic_Wrong : IsC K (He.ga K "Wrong")
  ki_Wrong_Answer : PySem.W.kitOne K (.ref (He.ga K "Wrong")) (.ref (He.ga K "Answer")) = some true
  ki_Wrong_Barred : PySem.W.kitOne K (.ref (He.ga K "Wrong")) (.ref (He.ga K "Barred")) = some false
  ki_Wrong_Right : PySem.W.kitOne K (.ref (He.ga K "Wrong")) (.ref (He.ga K "Right")) = some false
  ki_Wrong_Spaced : PySem.W.kitOne K (.ref (He.ga K "Wrong")) (.ref (He.ga K "Spaced")) = some false
  ki_Wrong_Wrong : PySem.W.kitOne K (.ref (He.ga K "Wrong")) (.ref (He.ga K "Wrong")) = some true
  ic_Spaced : IsC K (He.ga K "Spaced")
  ki_Spaced_Answer : PySem.W.kitOne K (.ref (He.ga K "Spaced")) (.ref (He.ga K "Answer")) = some true
  ki_Spaced_Barred : PySem.W.kitOne K (.ref (He.ga K "Spaced")) (.ref (He.ga K "Barred")) = some false
  ki_Spaced_Right : PySem.W.kitOne K (.ref (He.ga K "Spaced")) (.ref (He.ga K "Right")) = some false
  ki_Spaced_Spaced : PySem.W.kitOne K (.ref (He.ga K "Spaced")) (.ref (He.ga K "Spaced")) = some true
  ki_Spaced_Wrong : PySem.W.kitOne K (.ref (He.ga K "Spaced")) (.ref (He.ga K "Wrong")) = some false
  ic_Barred : IsC K (He.ga K "Barred")
  ki_Barred_Answer : PySem.W.kitOne K (.ref (He.ga K "Barred")) (.ref (He.ga K "Answer")) = some true
  ki_Barred_Barred : PySem.W.kitOne K (.ref (He.ga K "Barred")) (.ref (He.ga K "Barred")) = some true
  ki_Barred_Right : PySem.W.kitOne K (.ref (He.ga K "Barred")) (.ref (He.ga K "Right")) = some false
  ki_Barred_Spaced : PySem.W.kitOne K (.ref (He.ga K "Barred")) (.ref (He.ga K "Spaced")) = some false
  ki_Barred_Wrong : PySem.W.kitOne K (.ref (He.ga K "Barred")) (.ref (He.ga K "Wrong")) = some false
end Song

/-! ### Ev1: small defs -/
namespace Song
open PySem L2
section
variable {P : Program} {w : World} {K : PySem.W.Frag} {mg : Str → Option Value} {base : Heap}
theorem sc_is_whole : FnScope ["thing"] ["thing"] (defScope s_is_whole) := ⟨rfl, rfl, rfl, by decide +kernel, rfl, by decide +kernel, by decide +kernel⟩
def sp_is_whole (K : PySem.W.Frag) : Sp := fun vs H Q _ => ∃ (v : V) (t : String), vs = [v] ∧ Kd K H v t ∧ Q (.bl (isInt v)) H
theorem fn_is_whole (T : Tx K mg) : Fn P w K mg base "is_whole" 1 (sp_is_whole K) := by
  obtain ⟨fd, F⟩ := T.d_is_whole
  refine ⟨_, fd, _, F.ok (CX := CX0) sc_is_whole (fun vs H Q E h => ?_) (fun cdv A outer s H vs Q E hr h => ?_), T.g_is_whole, F.kp, F.bindsN fun _ _ _ _ _ _ us hl => match us, hl with | [_], _ => rfl⟩
  · obtain ⟨v, t, rfl, _⟩ := h; rfl
  · obtain ⟨v, t, rfl, ht, q⟩ := h
    refine ⟨_, PSs.nox (pss_one (ps_ret (pe_and (pe_callB (show CallR _ _ (rIsi K) from call_isi) (by rfl) T.isinstance (by decide +kernel) (pa_cons (pv 0) (pa_cons (pe_gt (n := "int") T.int (by rfl) (by decide +kernel)) pa_nil))) (pe_one (pe_not (pe_callB (show CallR _ _ (rIsi K) from call_isi) (by rfl) T.isinstance (by decide +kernel) (pa_cons (pv 0) (pa_cons (pe_gt (n := "bool") T.bool (by rfl) (by decide +kernel)) pa_nil)))))))), ?_⟩
    obtain ⟨k1, k2, _⟩ := kit_kd ht
    refine ⟨_, rfl, _, _, _, _, _, rfl, .ty _, ht, k1, _, rfl, ?_⟩
    rw [kd_isInt ht] at q
    by_cases e : t = "int"
    · subst e
      exact iteT ⟨_, rfl, _, _, _, _, _, rfl, .ty _, ht, k2, _, rfl, q⟩
    · by_cases e2 : t = "bool"
      · subst e2
        exact iteT ⟨_, rfl, _, _, _, _, _, rfl, .ty _, ht, k2, _, rfl, q⟩
      · have f1 : (t == "int") = false := beq_eq_false_iff_ne.mpr e
        have f2 : (t == "bool") = false := beq_eq_false_iff_ne.mpr e2
        rw [f1] at q
        rw [f1, f2]
        exact iteF q
theorem sc_are_numbers : FnScope ["thing", "one"] ["thing"] (defScope s_are_numbers) := ⟨rfl, rfl, rfl, by decide +kernel, rfl, by decide +kernel, by decide +kernel⟩
def sp_are_numbers (K : PySem.W.Frag) : Sp := fun vs H Q _ => ∃ v : V, vs = [v] ∧
  ((∃ (a : Addr) (xs : List V), v = .ref a ∧ SqL K H a xs ∧ xs.length ≤ 1000 ∧ (∀ x ∈ xs, ∃ t, Kd K H x t) ∧ ∀ H', Same H H' → Q (.bl (xs.all isInt)) H') ∨ (∃ t, Kd K H v t ∧ t ≠ "list" ∧ Q (.bl false) H))
theorem kd_mono {K : PySem.W.Frag} {H H' : Hp} {v : V} {t : String} (s : Same H H') (h : Kd K H v t) : Kd K H' v t := by
  generalize e : Value.type t = u at h
  cases h with
  | base b =>
    cases b with
    | non => cases e; exact .base .non
    | bl x => cases e; exact .base (.bl x)
    | int x => cases e; exact .base (.int x)
    | str x => cases e; exact .base (.str x)
    | flt x => cases e; exact .base (.flt x)
    | lst h => cases e; exact .base (.lst (s _ _ h))
    | frz h => cases e; exact .base (.frz (s _ _ h))
    | tup h => cases e; exact .base (.tup (s _ _ h))
    | dK h => cases e; exact .base (.dK (s _ _ h))
    | dT h => cases e; exact .base (.dT (s _ _ h))
  | byt b => cases e; exact .byt b
  | set h => cases e; exact .set (s _ _ h)
  | kList h c => cases e; exact .kList h c
  | kTuple h c => cases e; exact .kTuple h c
  | kDict h c => cases e; exact .kDict h c
  | fTuple h => cases e; exact .fTuple (s _ _ h)
  | fDict h => cases e; exact .fDict (s _ _ h)
theorem bls_all (xs : List V) (f : V → Bool) : xs.map (fun x => V.bl (f x)) = (xs.map f).map V.bl := by rw [List.map_map]; rfl
theorem all_id (xs : List V) (f : V → Bool) : (xs.map f).all id = xs.all f := by rw [List.all_map]; rfl
theorem fn_are_numbers (T : Tx K mg) : Fn P w K mg base "are_numbers" 2 (sp_are_numbers K) := by
  obtain ⟨fd, F⟩ := T.d_are_numbers
  refine ⟨_, fd, _, F.ok (CX := CX0) sc_are_numbers (fun vs H Q E h => ?_) (fun cdv A outer s H vs Q E hr h => ?_), T.g_are_numbers, F.kp, F.bindsN fun _ _ _ _ _ _ us hl => match us, hl with | [_], _ => rfl⟩
  · obtain ⟨v, rfl, _⟩ := h; rfl
  · obtain ⟨v, rfl, h⟩ := h
    refine ⟨_, PSs.nox (pss_one (ps_ret (pe_and (pe_callB (show CallR _ _ (rIsi K) from call_isi) (by rfl) T.isinstance (by decide +kernel) (pa_cons (pv 0) (pa_cons (pe_gt (n := "list") T.list (by rfl) (by decide +kernel)) pa_nil))) (pe_one (pe_callB (show CallR _ _ (rAll K) from cr_all (by rfl)) (by rfl) T.all (by decide +kernel) (pa_cons (pe_lc (own := [("one", 1)]) (g := (gName 1)) (tt := tYes) (by rfl) sc_are_numbers.nd (show PI _ _ _ (iList K _) from pi_list (pv 0)) (blkOk_by (by kernel_rfl)) (fun _ _ _ _ _ => (pg_name (i := 1) sc_are_numbers.nd rfl (by first | exact Or.inl rfl | exact Or.inr rfl))) (fun _ _ _ _ _ => pts_nil) (fun _ _ _ _ _ => (pe_fn (fn_is_whole T) (hr.mono (by first | decide | omega)) (by rfl) (pa_cons (pv 1) pa_nil)))) pa_nil)))))), ?_⟩
    rcases h with ⟨a, xs, rfl, hs, hl, ht, q⟩ | ⟨t, ht, hn, q⟩
    · refine ⟨_, rfl, _, _, _, _, _, rfl, .ty _, kd_list hs, (kit_kd (kd_list hs)).2.2.1, _, rfl, iteT ?_⟩
      refine ⟨_, rfl, a, rfl, ⟨_, hs⟩, fun D nD => lc_map (fun x => .bl (isInt x)) hs nD hl ?_ ?_ gname_mono⟩
      · intro i x H1 hx s1 k hk
        refine ⟨rfl, _, rfl, ?_⟩
        obtain ⟨t, ht⟩ := ht x (List.mem_of_getElem? hx)
        exact ⟨x, t, rfl, kd_mono s1 ht, hk _ (Same.refl _)⟩
      · intro H1 s1 hD
        refine ⟨_, xs.map isInt, rfl, SqL.of (by rw [← bls_all]; exact hD), ?_⟩
        rw [all_id]
        exact q _ s1
    · refine ⟨_, rfl, _, _, _, _, _, rfl, .ty _, ht, (kit_kd ht).2.2.1, _, rfl, ?_⟩
      rw [show (t == "list") = false from beq_eq_false_iff_ne.mpr hn]
      exact iteF q
end
end Song

/-! ### Ev2: counts, singers, rounds, turns -/
namespace Song
open PySem L2
/-! #### plain functions -/
/-- rising, each below the next -/
def rising : List Int → Bool
  | [] => true
  | [_] => true
  | a :: b :: r => decide (a < b) && rising (b :: r)
def areSingers (ns : List Int) (many : Int) : Bool := decide (1 ≤ ns.length ∧ ns.length ≤ 3) && ns.all (fun n => decide (0 ≤ n ∧ n < many)) && rising ns
def zipLt (ns : List Int) : List Bool := (ns.zip (ns.drop 1)).map fun p => decide (p.1 < p.2)
theorem zipLt_all : ∀ ns : List Int, (zipLt ns).all id = rising ns
  | [] => rfl
  | [_] => rfl
  | a :: b :: r => by
    have ih := zipLt_all (b :: r)
    unfold zipLt at ih ⊢
    unfold rising
    simp only [List.drop_succ_cons, List.drop_zero, List.zip_cons_cons, List.map_cons, List.all_cons, id] at ih ⊢
    rw [ih]
/-- 0 <= x < many -/
def inR (many : Int) : V → Bool
  | .int n => decide (0 ≤ n) && decide (n < many)
  | _ => false
theorem inR_all (many : Int) (ns : List Int) : (ns.map V.int).all (inR many) = ns.all fun n => decide (0 ≤ n ∧ n < many) := by
  rw [List.all_map]
  congr 1
  funext n
  show (decide (0 ≤ n) && decide (n < many)) = _
  rw [Bool.decide_and]
theorem int_at {ns : List Int} {i : Nat} {x : V} (h : (ns.map V.int)[i]? = some x) : ∃ n, x = .int n ∧ ns[i]? = some n := by
  rw [List.getElem?_map] at h
  cases e : ns[i]? with
  | none => rw [e] at h; cases h
  | some n => rw [e] at h; exact ⟨n, (Option.some.inj h).symm, rfl⟩
theorem cut1 (ns : List Int) : cutV (ns.map V.int) (some 1) none = (ns.drop 1).map V.int := by
  unfold cutV
  cases ns with
  | nil => rfl
  | cons a r =>
    have e1 : HT.sIx ((a :: r).map V.int).length 0 (some 1) = 1 := by
      show HT.sIx _ 0 (some 1) = 1
      simp [HT.sIx]
    have e2 : HT.sIx ((a :: r).map V.int).length ((a :: r).map V.int).length none = ((a :: r).map V.int).length := rfl
    rw [e1, e2, List.take_of_length_le (by simp), ← List.map_drop]
theorem zip_vals (ns : List Int) : (List.range (min (ns.map V.int).length ((ns.drop 1).map V.int).length)).filterMap (fun i => ((ns.zip (ns.drop 1))[i]?).map fun p => V.bl (decide (p.1 < p.2))) = (zipLt ns).map V.bl := by
  have e : min (ns.map V.int).length ((ns.drop 1).map V.int).length = (ns.zip (ns.drop 1)).length := by simp
  rw [e, range_map]
  unfold zipLt
  rw [List.map_map]
  rfl
section
variable {P : Program} {w : World} {K : PySem.W.Frag} {mg : Str → Option Value} {base : Heap}
theorem sc_check_many : FnScope ["many"] ["many"] (defScope s_check_many) := ⟨rfl, rfl, rfl, by decide +kernel, rfl, by decide +kernel, by decide +kernel⟩
def sp_check_many : Sp := fun vs H Q _ => ∃ n : Int, vs = [.int n] ∧ 1 ≤ n ∧ n ≤ 6 ∧ Q .non H
theorem fn_check_many (T : Tx K mg) : Fn P w K mg base "check_many" 2 sp_check_many := by
  obtain ⟨fd, F⟩ := T.d_check_many
  refine ⟨_, fd, _, F.ok (CX := CX0) sc_check_many (fun vs H Q E h => ?_) (fun cdv A outer s H vs Q E hr h => ?_), T.g_check_many, F.kp, F.bindsN fun _ _ _ _ _ _ us hl => match us, hl with | [_], _ => rfl⟩
  · obtain ⟨n, rfl, _⟩ := h; rfl
  · obtain ⟨n, rfl, h1, h6, q⟩ := h
    refine ⟨_, PSs.nox (pss_one (ps_if (PW.pt (pw_or (pt_not (pt_val (pe_fn (fn_is_whole T) (hr.mono (by first | decide | omega)) (by rfl) (pa_cons (pv 0) pa_nil)))) (pw_or1 (pt_not (pt_chain op_le op_le pe_int (pv 0) (pe_gi T.c_MOST_SINGERS (by rfl))))))) (pss_one ps_never) pss_nil)), ?_⟩
    refine ⟨_, rfl, _, _, rfl, kd_int n, _, rfl, iteF ?_⟩
    refine ⟨_, rfl, _, _, rfl, rfl, _, rfl, ?_⟩
    rw [decide_eq_true h1]
    refine iteT ⟨_, _, rfl, rfl, _, rfl, ?_⟩
    rw [decide_eq_true h6]
    exact iteF q
theorem sc_are_singers : FnScope ["thing", "many", "one", "other"] ["thing", "many"] (defScope s_are_singers) := ⟨rfl, rfl, rfl, by decide +kernel, rfl, by decide +kernel, by decide +kernel⟩
def sp_are_singers (K : PySem.W.Frag) : Sp := fun vs H Q _ => ∃ (a : Addr) (ns : List Int) (many : Int), vs = [.ref a, .int many] ∧ SqL K H a (ns.map V.int) ∧ ns.length ≤ 1000 ∧ ∀ H', Same H H' → Q (.bl (areSingers ns many)) H'
theorem fn_are_singers (T : Tx K mg) : Fn P w K mg base "are_singers" 3 (sp_are_singers K) := by
  obtain ⟨fd, F⟩ := T.d_are_singers
  refine ⟨_, fd, _, F.ok (CX := CX0) sc_are_singers (fun vs H Q E h => ?_) (fun cdv A outer s H vs Q E hr h => ?_), T.g_are_singers, F.kp, F.bindsN fun _ _ _ _ _ _ us hl => match us, hl with | [_, _], _ => rfl⟩
  · obtain ⟨a, ns, many, rfl, _⟩ := h; rfl
  · obtain ⟨a, ns, many, rfl, hs, hl, q⟩ := h
    refine ⟨_, PSs.nox (pss_cons (ps_if (PW.pt (pw_or (pt_not (pt_val (pe_fn (fn_are_numbers T) (hr.mono (by first | decide | omega)) (by rfl) (pa_cons (pv 0) pa_nil)))) (pw_or1 (pt_not (pt_chain op_le op_le pe_int (pe_callB (show CallR _ _ (rLenQ K) from call_len_seq) (by rfl) T.len (by decide +kernel) (pa_cons (pv 0) pa_nil)) (pe_gi T.c_MOST_OF_SONG (by rfl))))))) (pss_one (ps_ret pe_bl)) pss_nil)
      (pss_cons (ps_if (pt_not (pt_val (pe_callB (show CallR _ _ (rAll K) from cr_all (by rfl)) (by rfl) T.all (by decide +kernel) (pa_cons (pe_lc (own := [("one", 2)]) (g := (gName 2)) (tt := tYes) (by rfl) sc_are_singers.nd (show PI _ _ _ (iList K _) from pi_list (pv 0)) (blkOk_by (by kernel_rfl)) (fun _ _ _ _ _ => (pg_name (i := 2) sc_are_singers.nd rfl (by first | exact Or.inl rfl | exact Or.inr rfl))) (fun _ _ _ _ _ => pts_nil) (fun _ _ _ _ _ => (pe_chain op_le op_lt pe_int (pv 2) (pv 1)))) pa_nil)))) (pss_one (ps_ret pe_bl)) pss_nil)
      (pss_one (ps_ret (pe_callB (show CallR _ _ (rAll K) from cr_all (by rfl)) (by rfl) T.all (by decide +kernel) (pa_cons (pe_lc (own := [("one", 2), ("other", 3)]) (g := (gTup K 2 (gCons (gName 2) (gCons (gName 3) gNil)))) (tt := tYes) (by rfl) sc_are_singers.nd (show PI _ _ _ (iZip K _) from pi_zip (by rfl) T.zip (pa_cons (pv 0) (pa_cons (pe_slice (show SlR _ (rSlL K) from sl_list) (pv 0) (po_some pe_int) po_none) pa_nil))) (blkOk_by (by kernel_rfl)) (fun _ _ _ _ _ => (show PG _ _ (gTup K _ _) from pg_tup rfl (pgs_cons (pg_name (i := 2) sc_are_singers.nd rfl (by first | exact Or.inl rfl | exact Or.inr rfl)) (pgs_cons (pg_name (i := 3) sc_are_singers.nd rfl (by first | exact Or.inl rfl | exact Or.inr rfl)) pgs_nil)))) (fun _ _ _ _ _ => pts_nil) (fun _ _ _ _ _ => (pe_cmpR op_lt (pv 2) (pv 3) (nomark _)))) pa_nil)))))), ?_⟩
    have hlV : (ns.map V.int).length ≤ 1000 := by rw [List.length_map]; exact hl
    have allI : (ns.map V.int).all isInt = true := by
      rw [List.all_map, List.all_eq_true]; intro x _; rfl
    refine ⟨_, rfl, _, rfl, .inl ⟨a, _, rfl, hs, hlV, fun x hx => ?_, fun H1 s1 => ?_⟩⟩
    · obtain ⟨i, _, rfl⟩ := List.mem_map.mp hx
      exact ⟨_, kd_int i⟩
    rw [allI]
    refine ⟨_, rfl, iteF ?_⟩
    refine ⟨_, rfl, a, _, rfl, .inl (s1.seq hs), _, _, rfl, rfl, _, rfl, ?_⟩
    rw [List.length_map]
    by_cases h1 : (1 : Int) ≤ (ns.length : Int)
    case neg =>
      have e0 : areSingers ns many = false := by
        unfold areSingers
        rw [decide_eq_false (by omega)]; rfl
      rw [decide_eq_false h1]
      refine iteF ⟨_, rfl, iteT ?_⟩
      rw [e0] at q
      exact q _ s1
    rw [decide_eq_true h1]
    refine iteT ⟨_, _, rfl, rfl, _, rfl, ?_⟩
    by_cases h3 : (ns.length : Int) ≤ 3
    case neg =>
      have e0 : areSingers ns many = false := by
        unfold areSingers
        rw [decide_eq_false (by omega)]; rfl
      rw [decide_eq_false h3]
      rw [e0] at q
      exact iteT (q _ s1)
    rw [decide_eq_true h3]
    refine iteF ?_
    refine ⟨_, rfl, a, rfl, ⟨_, s1.seq hs⟩, fun D nD => lc_map (fun x => .bl (inR many x)) (s1.seq hs) nD hlV ?_ ?_ gname_mono⟩
    · intro i x H2 hx s2 k hk
      obtain ⟨n, rfl, _⟩ := int_at hx
      refine ⟨rfl, _, rfl, _, _, rfl, rfl, _, rfl, ?_⟩
      have hk2 : k (.bl (decide (0 ≤ n) && decide (n < many))) H2 := hk H2 (Same.refl _)
      by_cases h0 : (0 : Int) ≤ n
      · rw [decide_eq_true h0] at hk2 ⊢
        exact iteT ⟨_, rfl, _, _, rfl, rfl, hk2⟩
      · rw [decide_eq_false h0] at hk2 ⊢
        exact iteF hk2
    intro H2 s2 hD
    refine ⟨_, (ns.map V.int).map (inR many), rfl, SqL.of (by rw [← bls_all]; exact hD), _, rfl, ?_⟩
    rw [all_id, inR_all]
    by_cases hA : (ns.all fun n => decide (0 ≤ n ∧ n < many)) = true
    case neg =>
      have e0 : areSingers ns many = false := by
        unfold areSingers
        rw [Bool.eq_false_iff.mpr hA, Bool.and_false]; rfl
      rw [Bool.eq_false_iff.mpr hA]
      rw [e0] at q
      exact iteT (q _ (s1.trans s2))
    rw [hA]
    refine iteF ?_
    have hs2 := (s1.trans s2).seq hs
    refine ⟨_, rfl, _, rfl, _, rfl, a, _, rfl, hs2, fun p np => ?_⟩
    refine to_new np fun H3 s3 hp => ?_
    rw [cut1] at hp
    refine ⟨a, p, _, _, rfl, s3.seq hs2, SqL.of hp, fun D nD => lc_pure (walk_zip rfl) sqL2_mono ⟨s3.seq hs2, SqL.of hp⟩ (fun i => ((ns.zip (ns.drop 1))[i]?).map fun p => V.bl (decide (p.1 < p.2))) nD (by simp; omega) ?_ ?_⟩
    · rintro i v H4 H5 hi s4 ⟨t, x, y, rfl, nt, rfl, hx, hy⟩ k kn hk _
      obtain ⟨n, rfl, hn⟩ := int_at hx
      obtain ⟨m, rfl, hm⟩ := int_at hy
      refine ⟨t, _, rfl, SqT.of upd_same, rfl, _, _, rfl, _, _, rfl, rfl, rfl, yes_of ?_⟩
      refine ⟨_, rfl, _, rfl, _, _, rfl, rfl, ?_⟩
      refine hk _ _ ?_ (Same.new nt)
      have e : (ns.zip (ns.drop 1))[i]? = some (n, m) := by rw [List.getElem?_zip_eq_some]; exact ⟨hn, hm⟩
      rw [e]
      rfl
    · intro H4 s4 hD4
      rw [zip_vals] at hD4
      refine ⟨_, zipLt ns, rfl, SqL.of hD4, ?_⟩
      rw [zipLt_all]
      have e : areSingers ns many = rising ns := by
        unfold areSingers
        rw [hA, decide_eq_true (by omega)]; rfl
      rw [← e]
      exact q _ (((s1.trans s2).trans s3).trans s4)
end
end Song

/-! ### Ut: small things used everywhere -/
namespace Song
open PySem L2
theorem at_int {ls : List Int} {s : Int} (h0 : 0 ≤ s) (h1 : s < ls.length) : atI (ls.map V.int) s = some (.int (ls.getD s.toNat 0)) := by
  obtain ⟨j, rfl⟩ := Int.eq_ofNat_of_zero_le h0
  have hj : j < ls.length := by omega
  refine atI_nat ?_
  rw [List.getElem?_map, List.getElem?_eq_getElem hj]
  simp [List.getD_eq_getElem?_getD, List.getElem?_eq_getElem hj]
theorem max_ite (i j : Int) : (if j > i then j else i) = max i j := by
  split <;> omega
/-- all of ss are places of a list so long -/
def InB (n : Nat) (ss : List Int) : Prop := ∀ s ∈ ss, 0 ≤ s ∧ s < (n : Int)
theorem off_put {S : List Addr} {H : Hp} {a : Addr} {o : HO} (h : a ∈ S) : off S (upd H a o) = off S H := by
  funext b
  by_cases q : b ∈ S
  · rw [off_in q, off_in q]
  · rw [off_out q, off_out q, upd_ne (fun z => q (by rw [z]; exact h))]
theorem new_out {S : List Addr} {H : Hp} {t : Addr} (dom : ∀ a ∈ S, ∃ o, H a = some o) (nt : H t = none) : t ∉ S := fun q => by
  obtain ⟨o, h⟩ := dom t q
  rw [nt] at h; cases h
theorem dom_put {S : List Addr} {H : Hp} {b : Addr} {o : HO} (dom : ∀ a ∈ S, ∃ o, H a = some o) : ∀ a ∈ S, ∃ o', upd H b o a = some o' := fun a ha => by
  by_cases e : a = b
  · rw [e]; exact ⟨o, upd_same⟩
  · rw [upd_ne e]; exact dom a ha
theorem dom_same {S : List Addr} {H H' : Hp} (s : Same H H') (dom : ∀ a ∈ S, ∃ o, H a = some o) : ∀ a ∈ S, ∃ o', H' a = some o' := fun a ha => by
  obtain ⟨o, h⟩ := dom a ha
  exact ⟨o, s _ _ h⟩
theorem rep_flat (n : Nat) : (List.replicate n [V.int 0]).flatten = List.replicate n (V.int 0) := by
  induction n with
  | zero => rfl
  | succ n ih => rw [List.replicate_succ, List.flatten_cons, ih]; rfl
theorem rep_ints (n : Nat) : (List.replicate n (V.int 0)) = (List.replicate n (0 : Int)).map V.int := by rw [List.map_replicate]
theorem Fra.le {S S' : List Addr} {H H' : Hp} (f : Fra S' H H') (sub : ∀ a ∈ S', a ∈ S) : Same (Song.off S H) H' := fun b o h => by
  obtain ⟨q, h⟩ := off_some h
  exact f b o (fun z => q (sub b z)) h
theorem ixN_of {n : Nat} {s : Int} (h0 : 0 ≤ s) (h1 : s < (n : Int)) : ixN n s = some s.toNat := by
  unfold ixN
  rw [if_pos h0, if_pos h1]
theorem areS_len {ss : List Int} {m : Int} (h : areSingers ss m = true) : 1 ≤ ss.length ∧ ss.length ≤ 3 ∧ (∀ s ∈ ss, 0 ≤ s ∧ s < m) ∧ rising ss = true := by
  unfold areSingers at h
  simp only [Bool.and_eq_true, decide_eq_true_eq, List.all_eq_true] at h
  exact ⟨h.1.1.1, h.1.1.2, h.1.2, h.2⟩
theorem snoc_ints (ns : List Int) (n : Int) : (ns ++ [n]).map V.int = ns.map V.int ++ [V.int n] := by rw [List.map_append]; rfl
theorem lt_line {n : Nat} (h : n ≤ 1000) : n < sizeLine := Nat.lt_of_le_of_lt h (by decide)
theorem nodup_len : ∀ {n : Nat} {ws : List Int}, InB n ws → ws.Nodup → ws.length ≤ n
  | 0, [], _, _ => Nat.le_refl _
  | 0, w :: r, h, _ => by have := h w (by simp); omega
  | n + 1, ws, h, nd => by
    have h1 : InB n (ws.erase (n : Int)) := fun s hs => by
      have h2 := h s (List.mem_of_mem_erase hs)
      have h3 : s ≠ (n : Int) := fun e => by
        rw [e] at hs
        exact (nd.not_mem_erase) hs
      omega
    have h2 := nodup_len h1 (nd.erase _)
    have h3 := List.length_erase (a := (n : Int)) (l := ws)
    split at h3 <;> omega
def optV : Option Int → V
  | none => .non
  | some n => .int n
def optD : Option Int → PyData
  | none => .none
  | some n => .int n
def Shp (k : Nat) (d : PyData) : Prop := d.canLay0 = true ∧ d.depth ≤ k
theorem shp_all {k : Nat} : ∀ {xs : List PyData}, (∀ x ∈ xs, Shp k x) → PyData.canLayAll0 xs = true ∧ PyData.depthAll xs ≤ k
  | [], _ => ⟨rfl, Nat.zero_le _⟩
  | x :: xs, h => by
    obtain ⟨h1, h2⟩ := h x (by simp)
    obtain ⟨h3, h4⟩ := shp_all (xs := xs) fun y hy => h y (by simp [hy])
    refine ⟨by rw [PyData.canLayAll0, h1, h3]; rfl, ?_⟩
    rw [PyData.depthAll]
    exact Nat.max_le.mpr ⟨h2, h4⟩
theorem shp_list {k : Nat} {xs : List PyData} (h : ∀ x ∈ xs, Shp k x) : Shp (k + 1) (.list xs) := by
  obtain ⟨h1, h2⟩ := shp_all h
  refine ⟨by rw [PyData.canLay0]; exact h1, ?_⟩
  rw [PyData.depth]
  omega
theorem shp_tuple {k : Nat} {xs : List PyData} (h : ∀ x ∈ xs, Shp k x) : Shp (k + 1) (.tuple xs) := by
  obtain ⟨h1, h2⟩ := shp_all h
  refine ⟨by rw [PyData.canLay0]; exact h1, ?_⟩
  rw [PyData.depth]
  omega
theorem shp_int {k : Nat} (i : Int) : Shp (k + 1) (.int i) := ⟨by rw [PyData.canLay0], by rw [PyData.depth] <;> omega⟩
theorem Shp.mono {k m : Nat} {d : PyData} (h : Shp k d) (hk : k ≤ m) : Shp m d := ⟨h.1, Nat.le_trans h.2 hk⟩
theorem Shp.ok {k : Nat} {d : PyData} (h : Shp k d) (hk : k ≤ 64 := by decide) : SeqAt.shaped d = true := by
  unfold SeqAt.shaped
  rw [h.1, decide_eq_true (Nat.le_trans h.2 hk)]; rfl
theorem shp_ints (ns : List Int) : Shp 2 (.list (ns.map PyData.int)) := shp_list fun x hx => by
  obtain ⟨i, _, rfl⟩ := List.mem_map.mp hx
  exact shp_int i
theorem shp_optD (o : Option Int) : Shp 1 (optD o) := by
  cases o with
  | none => exact ⟨by unfold optD; rw [PyData.canLay0], by unfold optD; rw [PyData.depth] <;> omega⟩
  | some n => exact shp_int n
theorem shp_word {x : Str} (h : PyData.canLay0 (.str x) = true) {k : Nat} : Shp (k + 1) (.str x) := ⟨h, by rw [PyData.depth] <;> omega⟩
theorem eqv_self {k : Nat} {d : PyData} (h : Shp k d) : PyData.eqv d d = true := PySem.SeqAt.eqv_refl d h.1
theorem eqv_nil (ns : List Int) : PyData.eqv (.list (ns.map PyData.int)) (.list []) = ns.isEmpty := by
  cases ns with
  | nil => rfl
  | cons a r => rfl
theorem shp_nil : Shp 1 (.list []) := shp_list (k := 0) fun x hx => by cases hx
theorem inV_ints (n : Int) (ns : List Int) : inV (.int n) (ns.map V.int) = decide (n ∈ ns) := by
  unfold inV
  rw [List.any_map]
  induction ns with
  | nil => rfl
  | cons a r ih =>
    rw [List.any_cons, ih]
    show ((a == n) || _) = _
    by_cases e : a = n
    · subst e; simp
    · have : n ≠ a := fun z => e z.symm
      simp [e, this]
theorem flat_ints (ns : List Int) : (ns.map V.int).all flatV = true := by
  rw [List.all_map, List.all_eq_true]; intro x _; rfl
theorem dp_opt {K : PySem.W.Frag} {H : Hp} (o : Option Int) : Dp K H (optV o) (optD o) := by
  cases o with
  | none => exact .non
  | some n => exact .int n
theorem cut63 {ns : List Int} (h : ns.length ≤ 63) : cutV (ns.map V.int) none (some 63) = ns.map V.int := by
  unfold cutV
  have e1 : HT.sIx (ns.map V.int).length 0 none = 0 := rfl
  have e2 : HT.sIx (ns.map V.int).length (ns.map V.int).length (some 63) = (ns.map V.int).length := by
    simp only [HT.sIx]
    rw [if_neg (by decide), List.length_map]
    have : (63 : Int).toNat = 63 := rfl
    omega
  rw [e1, e2]
  exact List.take_of_length_le (by simp)
/-- the making of an evening, seen from ahead of it -/
theorem made_same {H H' : Hp} {x dx : Addr} {o o' : HO} (nx : H x = none) (ndx : H dx = none) (f : Fra [x] (upd (upd H dx o) x o') H') : Same H H' := fun b o2 e => by
  have n1 : b ≠ x := ne_of_none e nx
  have n2 : b ≠ dx := ne_of_none e ndx
  refine f.one n1 ?_
  rw [upd_ne n1, upd_ne n2]
  exact e
theorem made_free {H : Hp} {x dx a : Addr} {o o' : HO} (h : upd (upd H dx o) x o' a = none) : H a = none := by
  have n1 : a ≠ x := fun e => by rw [e, upd_same] at h; cases h
  rw [upd_ne n1] at h
  have n2 : a ≠ dx := fun e => by rw [e, upd_same] at h; cases h
  rw [upd_ne n2] at h
  exact h
theorem sqT_mono {K : PySem.W.Frag} {a : Addr} {xs : List V} (H H' : Hp) (s : Same H H') (h : SqT K H a xs) : SqT K H' a xs := Same.sqT s h
/-- over a tuple -/
theorem lc_mapT {g : TG} {te : TE} {vs : List Nat} {σ : L2.St} {H1 : Hp} {D : Addr} {Qd : Hp → Prop} {K : PySem.W.Frag} {a : Addr} {xs : List V} (f : V → V) (hSq : SqT K H1 a xs) (nD : H1 D = none) (hlen : xs.length ≤ 1000)
    (hs : ∀ (i : Nat) x H, xs[i]? = some x → Same H1 H → ∀ k : V → Hp → Prop, (∀ H', Same H H' → k (f x) H') → g x (wipe σ vs) H fun σ2 H2 => wipe σ2 vs = wipe σ vs ∧ te σ2 H2 k)
    (hd : ∀ H, Same H1 H → H D = some (.lst (xs.map f)) → Qd H)
    (hg : ∀ x σ H Q Q', (∀ σ2 H2, Q σ2 H2 → Q' σ2 H2) → g x σ H Q → g x σ H Q') : LcAsks (Itt K a) g tYes te vs σ H1 D Qd := by
  refine lc_pure walk_tup sqT_mono hSq (fun i => xs[i]?.map f) nD hlen (fun i x H H' hi s hY k kn hk _ => ?_) (fun H s hD => hd H s (by rw [← range_map]; exact hD))
  obtain ⟨rfl, hx⟩ := hY
  refine hg _ _ _ _ _ (fun σ2 H2 h => ?_) (hs i x H' hx s k fun H2 s2 => hk _ H2 (by rw [hx]; rfl) s2)
  exact ⟨h.1, yes_of h.2⟩
theorem eqv_ints (ns : List Int) : PyData.eqv (.list (ns.map PyData.int)) (.list (ns.map PyData.int)) = true := eqv_self (shp_ints ns)
theorem eqvI_all : ∀ xs ys : List Int, PyData.eqvAll (xs.map PyData.int) (ys.map PyData.int) = decide (xs = ys)
  | [], [] => rfl
  | [], _ :: _ => rfl
  | _ :: _, [] => rfl
  | a :: r, b :: t => by
    show ((a == b) && PyData.eqvAll (r.map PyData.int) (t.map PyData.int)) = _
    rw [eqvI_all r t]
    by_cases h : a = b
    · subst h
      rw [beq_self_eq_true, Bool.true_and]
      exact decide_eq_decide.mpr ⟨fun e => by rw [e], fun e => by injection e⟩
    · rw [beq_eq_false_iff_ne.mpr h, Bool.false_and, decide_eq_false (fun e => h (by injection e))]
theorem eqv_intsD (xs ys : List Int) : PyData.eqv (.list (xs.map PyData.int)) (.list (ys.map PyData.int)) = decide (xs = ys) := eqvI_all xs ys
theorem rising_of : ∀ {ns : List Int}, ns.Pairwise (· < ·) → rising ns = true
  | [], _ => rfl
  | [_], _ => rfl
  | a :: b :: r, h => by
    obtain ⟨h1, h2⟩ := List.pairwise_cons.mp h
    unfold rising
    rw [decide_eq_true (h1 b (by simp)), rising_of h2]; rfl
theorem areS_of {ns : List Int} {m : Int} (h1 : 1 ≤ ns.length) (h3 : ns.length ≤ 3) (hi : ∀ s ∈ ns, 0 ≤ s ∧ s < m) (hr : rising ns = true) : areSingers ns m = true := by
  unfold areSingers
  rw [decide_eq_true (And.intro h1 h3), hr, List.all_eq_true.mpr fun s hs => decide_eq_true (hi s hs)]; rfl
theorem areS_take {ns : List Int} {m : Int} (h : areSingers ns m = true) : areSingers (ns.take 1) m = true := by
  obtain ⟨h1, h3, hi, hr⟩ := areS_len h
  cases ns with
  | nil => simp at h1
  | cons a r => exact areS_of (by simp) (by simp) (fun s hs => hi s (by simp at hs; simp [hs])) rfl
theorem cut_to1 (ns : List Int) : cutV (ns.map V.int) none (some 1) = (ns.take 1).map V.int := by
  unfold cutV
  cases ns with
  | nil => rfl
  | cons a r =>
    have e1 : HT.sIx ((a :: r).map V.int).length 0 none = 0 := rfl
    have e2 : HT.sIx ((a :: r).map V.int).length ((a :: r).map V.int).length (some 1) = 1 := by simp [HT.sIx]
    rw [e1, e2]; rfl
theorem cut_ints (ns : List Int) {b e : Int} (hb : 0 ≤ b) (he : 0 ≤ e) : ∃ ms : List Int, cutV (ns.map V.int) (some b) (some e) = ms.map V.int ∧ ms.length ≤ (e - b).toNat ∧ ∀ z ∈ ms, z ∈ ns := by
  unfold cutV
  refine ⟨(ns.drop (HT.sIx (ns.map V.int).length 0 (some b))).take (HT.sIx (ns.map V.int).length (ns.map V.int).length (some e) - HT.sIx (ns.map V.int).length 0 (some b)), ?_, ?_, ?_⟩
  · rw [← List.map_drop, ← List.map_take]
  · rw [List.length_take, List.length_drop]
    have e1 : ∀ (n d : Nat) (x : Int), 0 ≤ x → HT.sIx n d (some x) = min x.toNat n := fun n d x hx => by
      simp only [HT.sIx]
      rw [if_neg (by omega)]
    rw [e1 _ _ _ hb, e1 _ _ _ he, List.length_map]
    omega
  · intro z hz
    exact List.mem_of_mem_drop (List.mem_of_mem_take hz)
theorem eqv_pair (a b c d : Int) : PyData.eqv (.tuple [.int a, .int b]) (.tuple [.int c, .int d]) = decide (a = c ∧ b = d) := by
  show ((a == c) && ((b == d) && true)) = _
  by_cases h1 : a = c <;> by_cases h2 : b = d <;> simp [h1, h2]
theorem eqv_opt (o o' : Option Int) : PyData.eqv (optD o) (optD o') = decide (o = o') := by
  cases o with
  | none =>
    cases o' with
    | none => rfl
    | some n => rfl
  | some m =>
    cases o' with
    | none => rfl
    | some n =>
      show (m == n) = _
      by_cases h : m = n <;> simp [h]
theorem shp_pair (a b : Int) : Shp 2 (.tuple [.int a, .int b]) := shp_tuple fun x hx => by
  simp only [List.mem_cons, List.not_mem_nil, or_false] at hx
  rcases hx with rfl | rfl <;> exact shp_int _
theorem cut_head (vs : List V) (n : Nat) : cutV vs none (some (n : Int)) = vs.take n := by
  unfold cutV
  have e1 : HT.sIx vs.length 0 none = 0 := rfl
  have e2 : HT.sIx vs.length vs.length (some (n : Int)) = min n vs.length := by
    simp only [HT.sIx]
    rw [if_neg (by omega)]
    rfl
  rw [e1, e2, List.drop_zero]
  by_cases h : n ≤ vs.length
  · rw [Nat.min_eq_left h]; rfl
  · rw [Nat.min_eq_right (by omega), List.take_of_length_le (by omega), List.take_of_length_le (by omega)]
theorem cut_tail (vs : List V) (n : Nat) : cutV vs (some (n : Int)) none = vs.drop n := by
  unfold cutV
  have e1 : HT.sIx vs.length 0 (some (n : Int)) = min n vs.length := by
    simp only [HT.sIx]
    rw [if_neg (by omega)]
    rfl
  have e2 : HT.sIx vs.length vs.length none = vs.length := rfl
  rw [e1, e2]
  by_cases h : n ≤ vs.length
  · rw [Nat.min_eq_left h]
    exact List.take_of_length_le (by rw [List.length_drop]; omega)
  · rw [Nat.min_eq_right (by omega), List.drop_of_length_le (show vs.length ≤ n by omega), List.drop_length]
    exact List.take_nil
@[elab_as_elim] theorem to_made {H : Hp} {x dx : Addr} {o o' : HO} {Q : Hp → Prop} (nx : H x = none) (ndx : H dx = none) (h : ∀ H', Same H H' → H' x = some o' → Q H') : Q (upd (upd H dx o) x o') :=
  h _ (made_same (o := o) (o' := o') nx ndx (Fra.refl _ _)) upd_same
theorem pw_of : ∀ {ns : List Int}, rising ns = true → ns.Pairwise (· < ·)
  | [], _ => .nil
  | [_], _ => List.pairwise_singleton _ _
  | a :: b :: r, h => by
    unfold rising at h
    rw [Bool.and_eq_true] at h
    have h1 := of_decide_eq_true h.1
    have ih := pw_of h.2
    refine List.pairwise_cons.mpr ⟨fun x hx => ?_, ih⟩
    rcases List.mem_cons.mp hx with e | e
    · rw [e]; exact h1
    · exact Int.lt_trans h1 ((List.pairwise_cons.mp ih).1 x e)
/-- two rising lists of the same members are one -/
theorem pw_ext : ∀ {xs ys : List Int}, xs.Pairwise (· < ·) → ys.Pairwise (· < ·) → (∀ z, z ∈ xs ↔ z ∈ ys) → xs = ys
  | [], [], _, _, _ => rfl
  | [], b :: _, _, _, h => by have := (h b).mpr (by simp); cases this
  | a :: _, [], _, _, h => by have := (h a).mp (by simp); cases this
  | a :: r, b :: t, h1, h2, h => by
    obtain ⟨p1, q1⟩ := List.pairwise_cons.mp h1
    obtain ⟨p2, q2⟩ := List.pairwise_cons.mp h2
    have e : a = b := by
      have m1 := (h a).mp (by simp)
      have m2 := (h b).mpr (by simp)
      rcases List.mem_cons.mp m1 with e | e
      · exact e
      · rcases List.mem_cons.mp m2 with e2 | e2
        · exact e2.symm
        · have := p1 b e2; have := p2 a e; omega
    subst e
    rw [pw_ext q1 q2 fun z => ⟨fun m => ?_, fun m => ?_⟩]
    · rcases List.mem_cons.mp ((h z).mp (by simp [m])) with e | e
      · have := p1 z m; omega
      · exact e
    · rcases List.mem_cons.mp ((h z).mpr (by simp [m])) with e | e
      · have := p2 z m; omega
      · exact e
theorem off_free {S : List Addr} {H H' : Hp} (s : Same H H') (n : ∀ a ∈ S, H a = none) : Same H (off S H') := fun b o e => by
  rw [off_out (fun z => by rw [n b z] at e; cases e)]
  exact s _ _ e
theorem dom_fra {S X : List Addr} {H H' : Hp} (f : Fra X H H') (dom : ∀ a ∈ S, ∃ o, H a = some o) (domX : ∀ a ∈ X, ∃ o, H' a = some o) : ∀ a ∈ S, ∃ o, H' a = some o := fun a ha => by
  by_cases e : a ∈ X
  · exact domX a e
  · obtain ⟨o, h⟩ := dom a ha
    exact ⟨o, f a o e h⟩
theorem foldl_take {α β : Type} (f : β → α → β) (b : β) : ∀ (xs : List α) (i : Nat) (x : α), xs[i]? = some x → (xs.take (i + 1)).foldl f b = f ((xs.take i).foldl f b) x := fun xs i x h => by
  obtain ⟨hi, e⟩ := List.getElem?_eq_some_iff.mp h
  rw [List.take_succ_eq_append_getElem hi, List.foldl_append, e]; rfl
end Song

/-! ### Lw1: a law's draws -/
namespace Song
open PySem L2
/-! #### sizes of numbers -/
def Bits (n : Nat) (c : Int) : Prop := c.natAbs < 2 ^ n
theorem Bits.of_int {n : Nat} {c : Int} (h : Builtin.Int.intBits c ≤ n) : Bits n c := by
  unfold Builtin.Int.intBits at h
  unfold Bits
  by_cases e : c = 0
  · subst e
    exact Nat.two_pow_pos n
  · rw [if_neg (by simpa using e)] at h
    exact (Nat.log2_lt (by omega)).mp (by omega)
theorem Bits.mono {n m : Nat} {c : Int} (h : Bits n c) (hm : n ≤ m) : Bits m c := Nat.lt_of_lt_of_le h (Nat.pow_le_pow_right (by decide) hm)
theorem Bits.small {c : Int} {n : Nat} (h : c.natAbs < 2 ^ 64) (hn : 64 ≤ n) : Bits n c := Bits.mono (n := 64) h hn
theorem Bits.add {n : Nat} {a b : Int} (ha : Bits n a) (hb : Bits n b) : Bits (n + 1) (a + b) := by
  unfold Bits at *
  rw [Nat.pow_succ]
  generalize 2 ^ n = m at *
  omega
theorem Bits.mulOk {n m : Nat} {a b : Int} (ha : Bits n a) (hb : Bits m b) (h : n + m ≤ 100000000) : IntMulOk a b := by
  have f : ∀ {x : Int} {k : Nat}, Bits k x → Builtin.Int.intBits x ≤ k := fun {x k} hx => by
    unfold Builtin.Int.intBits
    split
    · omega
    · rename_i e
      have : x.natAbs ≠ 0 := by
        have : x ≠ 0 := by simpa using e
        omega
      have := (Nat.log2_lt this).mpr hx
      omega
  have h1 := f ha
  have h2 := f hb
  unfold IntMulOk
  intro z
  rw [Bool.and_eq_true] at z
  have z3 := of_decide_eq_true (show decide ((((Builtin.Int.intBits a + Builtin.Int.intBits b : Nat) : Int)) > (bitsLine : Int)) = true from z.2)
  have e : bitsLine = 134217728 := by decide
  rw [e] at z3
  omega
theorem mulS {a b : Int} (h : a.natAbs < 2 ^ 64 ∨ b.natAbs < 2 ^ 64) : IntMulOk a b := by
  rcases h with h | h
  · exact IntMulOk.of_left (intBits_le_64 (by omega) (by omega))
  · exact IntMulOk.of_right (intBits_le_64 (by omega) (by omega))
/-! #### the draws, plainly -/
def cellAt (ns : List Int) (k : Int) : Int := ns.getD k.toNat 0
def primes : List Int := [1000003, 1000033, 1000037, 1000039, 1000081, 1000099, 1000117, 1000121, 1000133, 1000151, 1000159, 1000171, 1000183, 1000187, 1000193, 1000199]
theorem primes_pos : ∀ i : Nat, i < 16 → 0 < primes.getD i 0 := by decide
def lawDraw (c k m : Int) : Int := (c * 48271 + k * 69621) % primes.getD (k % 16).toNat 0 % m
theorem lawDraw_in {c k m : Int} (h : 0 < m) : 0 ≤ lawDraw c k m ∧ lawDraw c k m < m := ⟨Int.emod_nonneg _ (by omega), Int.emod_lt_of_pos _ h⟩
def p18 : Int := 10 ^ (18 : Int).toNat
theorem p18_eq : p18 = 1000000000000000000 := by decide
def lawValue (c t : Int) : Int :=
  if p18 ≤ c then (c - p18) / 2 ^ (3 * t).toNat
  else lawDraw ((c + 977 * t) * (c + 31 * t + 5)) (t % 9 + 1) 999983 * 1000003 + lawDraw ((c + 31 * t) * (c + 7) + 977 * t) (t % 7 + 2) 1000003
theorem lawValue_nn (c t : Int) : 0 ≤ lawValue c t := by
  unfold lawValue
  split
  · exact Int.ediv_nonneg (by omega) (two_pow_nn _)
  · have h1 := (lawDraw_in (c := (c + 977 * t) * (c + 31 * t + 5)) (k := t % 9 + 1) (m := 999983) (by decide)).1
    have h2 := (lawDraw_in (c := (c + 31 * t) * (c + 7) + 977 * t) (k := t % 7 + 2) (m := 1000003) (by decide)).1
    omega
section
variable {P : Program} {w : World} {K : PySem.W.Frag} {mg : Str → Option Value} {base : Heap}
theorem sc__law_cell_at : FnScope ["_law_script", "_law_k"] ["_law_script", "_law_k"] (defScope s__law_cell_at) := ⟨rfl, rfl, rfl, by decide +kernel, rfl, by decide +kernel, by decide +kernel⟩
def sp_cell_at (K : PySem.W.Frag) : Sp := fun vs H Q _ => ∃ (a : Addr) (ns : List Int) (k : Int), vs = [.ref a, .int k] ∧ SqL K H a (ns.map V.int) ∧ 0 ≤ k ∧ Q (.int (cellAt ns k)) H
theorem fn__law_cell_at (T : Tx K mg) : Fn P w K mg base "_law_cell_at" 1 (sp_cell_at K) := by
  obtain ⟨fd, F⟩ := T.d__law_cell_at
  refine ⟨_, fd, _, F.ok (CX := CX0) sc__law_cell_at (fun vs H Q E h => ?_) (fun cdv A outer s H vs Q E hr h => ?_), T.g__law_cell_at, F.kp, F.bindsN fun _ _ _ _ _ _ us hl => match us, hl with | [_, _], _ => rfl⟩
  · obtain ⟨a, ns, k, rfl, _⟩ := h; rfl
  · obtain ⟨a, ns, k, rfl, hs, h0, q⟩ := h
    refine ⟨_, PSs.nox (pss_cons (ps_if (pt_cmpR op_lt (pv 1) (pe_callB (show CallR _ _ (rLenQ K) from call_len_seq) (by rfl) T.len (by decide +kernel) (pa_cons (pv 0) pa_nil)) (nomark _)) (pss_one (ps_ret (pe_ix (show IxR _ (rIxL K) from ix_list) (pv 0) (pv 1) (fun _ _ => rfl)))) pss_nil)
      (pss_one (ps_ret pe_int))), ?_⟩
    refine ⟨_, rfl, _, rfl, a, _, rfl, .inl hs, _, _, rfl, rfl, _, rfl, ?_⟩
    rw [List.length_map]
    by_cases h1 : k < (ns.length : Int)
    · rw [decide_eq_true h1]
      exact iteT ⟨_, rfl, _, rfl, a, _, _, _, rfl, rfl, hs, at_int h0 h1, q⟩
    · rw [decide_eq_false h1]
      refine iteF ?_
      have e : cellAt ns k = 0 := by
        unfold cellAt
        rw [List.getD_eq_getElem?_getD, List.getElem?_eq_none (by omega)]; rfl
      rw [e] at q
      exact q
theorem sc__law_draw : FnScope ["_law_cell", "_law_k", "_law_many", "_law_primes"] ["_law_cell", "_law_k", "_law_many"] (defScope s__law_draw) := ⟨rfl, rfl, rfl, by decide +kernel, rfl, by decide +kernel, by decide +kernel⟩
def sp_draw : Sp := fun vs H Q _ => ∃ c k m : Int, vs = [.int c, .int k, .int m] ∧ 0 < m ∧ ∀ H', Same H H' → Q (.int (lawDraw c k m)) H'
theorem fn__law_draw (T : Tx K mg) : Fn P w K mg base "_law_draw" 1 sp_draw := by
  obtain ⟨fd, F⟩ := T.d__law_draw
  refine ⟨_, fd, _, F.ok (CX := CX0) sc__law_draw (fun vs H Q E h => ?_) (fun cdv A outer s H vs Q E hr h => ?_), T.g__law_draw, F.kp, F.bindsN fun _ _ _ _ _ _ us hl => match us, hl with | [_, _, _], _ => rfl⟩
  · obtain ⟨c, k, m, rfl, _⟩ := h; rfl
  · obtain ⟨c, k, m, rfl, hm, q⟩ := h
    refine ⟨_, PSs.nox (pss_cons (ps_set (i := 3) sc__law_draw.nd rfl (by first | exact Or.inl rfl | exact Or.inr rfl) (pe_tup (pa_cons pe_int (pa_cons pe_int (pa_cons pe_int (pa_cons pe_int (pa_cons pe_int (pa_cons pe_int (pa_cons pe_int (pa_cons pe_int (pa_cons pe_int (pa_cons pe_int (pa_cons pe_int (pa_cons pe_int (pa_cons pe_int (pa_cons pe_int (pa_cons pe_int (pa_cons pe_int pa_nil))))))))))))))))))
      (pss_one (ps_ret (pe_op op_mod (pe_op op_mod (pe_op op_add (pe_op op_mulO (pv 0) pe_int) (pe_op op_mulO (pv 1) pe_int)) (pe_ix (show IxR _ (rIxT K) from ix_tup) (pv 3) (pe_op op_mod (pv 1) pe_int) (fun _ _ => rfl))) (pv 2))))), ?_⟩
    have hk0 := Int.emod_nonneg k (b := 16) (by decide)
    have hk1 := Int.emod_lt_of_pos k (b := 16) (by decide)
    refine ⟨by show 16 ≤ sizeLine; decide, fun t nt => ?_⟩
    refine to_new nt fun H1 s1 ht => ?_
    refine ⟨_, rfl, _, _, rfl, rfl, mulS (.inr (by decide)), _, rfl, _, _, rfl, rfl, mulS (.inr (by decide)), _, _, rfl, rfl,
      _, rfl, _, rfl, _, _, rfl, rfl, (show (0 : Int) < 16 by decide), t, primes.map V.int, _, _, rfl, rfl, SqT.of ht, at_int (ls := primes) hk0 hk1, _, _, rfl, rfl, primes_pos _ (by omega), _, rfl, _, _, rfl, rfl, hm, q _ s1⟩
theorem sc__law_value : FnScope ["_law_cell", "_law_turn", "_law_blend"] ["_law_cell", "_law_turn"] (defScope s__law_value) := ⟨rfl, rfl, rfl, by decide +kernel, rfl, by decide +kernel, by decide +kernel⟩
def sp_value : Sp := fun vs H Q _ => ∃ c t : Int, vs = [.int c, .int t] ∧ Bits 1048600 c ∧ 0 ≤ t ∧ t ≤ 100 ∧ ∀ H', Same H H' → Q (.int (lawValue c t)) H'
theorem fn__law_value (T : Tx K mg) : Fn P w K mg base "_law_value" 2 sp_value := by
  obtain ⟨fd, F⟩ := T.d__law_value
  refine ⟨_, fd, _, F.ok (CX := CX0) sc__law_value (fun vs H Q E h => ?_) (fun cdv A outer s H vs Q E hr h => ?_), T.g__law_value, F.kp, F.bindsN fun _ _ _ _ _ _ us hl => match us, hl with | [_, _], _ => rfl⟩
  · obtain ⟨c, k, rfl, _⟩ := h; rfl
  · obtain ⟨c, t, rfl, hb, h0, h1, q⟩ := h
    refine ⟨_, PSs.nox (pss_cons (ps_if (pt_cmpR op_ge (pv 0) (pe_op op_pow pe_int pe_int) (nomark _)) (pss_one (ps_ret (pe_op op_shr (pe_op op_sub (pv 0) (pe_op op_pow pe_int pe_int)) (pe_op op_mulO pe_int (pv 1))))) pss_nil)
      (pss_cons (ps_set (i := 2) sc__law_value.nd rfl (by first | exact Or.inl rfl | exact Or.inr rfl) (pe_fn (fn__law_draw T) (hr.mono (by first | decide | omega)) (by rfl) (pa_cons (pe_op op_mulO (pe_op op_add (pv 0) (pe_op op_mulO pe_int (pv 1))) (pe_op op_add (pe_op op_add (pv 0) (pe_op op_mulO pe_int (pv 1))) pe_int)) (pa_cons (pe_op op_add (pe_op op_mod (pv 1) pe_int) pe_int) (pa_cons pe_int pa_nil)))))
      (pss_one (ps_ret (pe_op op_add (pe_op op_mulO (pv 2) pe_int) (pe_fn (fn__law_draw T) (hr.mono (by first | decide | omega)) (by rfl) (pa_cons (pe_op op_add (pe_op op_mulO (pe_op op_add (pv 0) (pe_op op_mulO pe_int (pv 1))) (pe_op op_add (pv 0) pe_int)) (pe_op op_mulO pe_int (pv 1))) (pa_cons (pe_op op_add (pe_op op_mod (pv 1) pe_int) pe_int) (pa_cons pe_int pa_nil))))))))), ?_⟩
    have e18 := p18_eq
    refine ⟨_, rfl, _, _, rfl, rfl, ⟨by decide, by decide, by decide⟩, _, _, rfl, rfl, _, rfl, ?_⟩
    by_cases hc : p18 ≤ c
    · have eq : lawValue c t = (c - p18) / 2 ^ (3 * t).toNat := by unfold lawValue; rw [if_pos hc]
      rw [show decide ((10 : Int) ^ (18 : Int).toNat ≤ c) = true from decide_eq_true hc]
      refine iteT ⟨_, rfl, _, _, rfl, rfl, ⟨by decide, by decide, by decide⟩, _, _, rfl, rfl, _, rfl, _, _, rfl, rfl, mulS (.inl (by decide)), _, _, rfl, rfl, (by show 0 ≤ 3 * t; omega), ?_⟩
      rw [eq] at q
      exact q _ (Same.refl _)
    · have eq : lawValue c t = lawDraw ((c + 977 * t) * (c + 31 * t + 5)) (t % 9 + 1) 999983 * 1000003 + lawDraw ((c + 31 * t) * (c + 7) + 977 * t) (t % 7 + 2) 1000003 := by unfold lawValue; rw [if_neg hc]
      rw [show decide ((10 : Int) ^ (18 : Int).toNat ≤ c) = false from decide_eq_false hc]
      have b1 : Bits 1048601 (c + 977 * t) := hb.add (Bits.small (by omega) (by decide))
      have b2 : Bits 1048601 (c + 31 * t) := hb.add (Bits.small (by omega) (by decide))
      have b3 : Bits 1048602 (c + 31 * t + 5) := b2.add (Bits.small (by omega) (by decide))
      have b4 : Bits 1048601 (c + 7) := hb.add (Bits.small (by omega) (by decide))
      refine iteF ?_
      refine ⟨_, rfl, _, rfl, _, _, rfl, rfl, mulS (.inl (by decide)), _, _, rfl, rfl, _, rfl, _, rfl, _, _, rfl, rfl, mulS (.inl (by decide)), _, _, rfl, rfl, _, _, rfl, rfl, _, _, rfl, rfl, b1.mulOk b3 (by decide),
        _, rfl, _, _, rfl, rfl, (show (0 : Int) < 9 by decide), _, _, rfl, rfl, _, _, _, rfl, by decide, fun H1 s1 => ?_⟩
      refine ⟨_, rfl, _, _, rfl, rfl, mulS (.inr (by decide)), _, rfl, _, rfl, _, _, rfl, rfl, mulS (.inl (by decide)), _, _, rfl, rfl, _, rfl, _, _, rfl, rfl, _, _, rfl, rfl, b2.mulOk b4 (by decide),
        _, rfl, _, _, rfl, rfl, mulS (.inl (by decide)), _, _, rfl, rfl, _, rfl, _, _, rfl, rfl, (show (0 : Int) < 7 by decide), _, _, rfl, rfl, _, _, _, rfl, by decide, fun H2 s2 => ?_⟩
      refine ⟨_, _, rfl, rfl, ?_⟩
      rw [eq] at q
      exact q _ (s1.trans s2)
def lawMany (ns : List Int) : Int := 1 + lawValue (cellAt ns 0) 1 % 6
theorem lawMany_in (ns : List Int) : 1 ≤ lawMany ns ∧ lawMany ns ≤ 6 := by
  have h1 := Int.emod_nonneg (lawValue (cellAt ns 0) 1) (b := 6) (by decide)
  have h2 := Int.emod_lt_of_pos (lawValue (cellAt ns 0) 1) (b := 6) (by decide)
  unfold lawMany
  omega
/-- all the cells of a script -/
def Scr (ns : List Int) : Prop := ns.length ≤ 63 ∧ ∀ z ∈ ns, Bits 1048576 z
theorem Scr.cell {ns : List Int} (h : Scr ns) (k : Int) : Bits 1048576 (cellAt ns k) := by
  unfold cellAt
  rw [List.getD_eq_getElem?_getD]
  cases e : ns[k.toNat]? with
  | none => exact Nat.two_pow_pos _
  | some z => exact h.2 z (List.mem_of_getElem? e)
end
def spLaw (K : PySem.W.Frag) : Sp := fun vs H Q _ => ∃ (a : Addr) (ns : List Int), vs = [.ref a] ∧ SqL K H a (ns.map V.int) ∧ Scr ns ∧ ∀ H', Q (.bl true) H'
end Song

/-! ### Dc: dicts of whole numbers, plainly -/
namespace Song
open PySem L2
def getC (cn : List (Int × Int)) (k : Int) : Option Int := (cn.find? fun p => decide (p.1 = k)).map (·.2)
def putC (cn : List (Int × Int)) (k v : Int) : List (Int × Int) := if (cn.any fun p => decide (p.1 = k)) = true then cn.map (fun p => if p.1 = k then (p.1, v) else p) else cn ++ [(k, v)]
def toK (cn : List (Int × Int)) : List (Key × V) := cn.map fun p => (Sum.inl p.1, V.int p.2)
theorem inl_iff {a b : Int} : ((Sum.inl a : Key) = Sum.inl b) ↔ a = b := ⟨fun e => by injection e, fun e => by rw [e]⟩
theorem valV_toK (k : Int) : ∀ cn : List (Int × Int), valV (toK cn) (Sum.inl k) = (getC cn k).map V.int
  | [] => rfl
  | p :: r => by
    by_cases e : p.1 = k
    · have h1 : valV (toK (p :: r)) (Sum.inl k) = some (.int p.2) := valV_pos (p := (Sum.inl p.1, V.int p.2)) (inl_iff.mpr e)
      rw [h1]
      unfold getC
      rw [List.find?_cons_of_pos (by simpa using e)]; rfl
    · have h1 : valV (toK (p :: r)) (Sum.inl k) = valV (toK r) (Sum.inl k) := valV_neg (p := (Sum.inl p.1, V.int p.2)) (fun z => e (inl_iff.mp z))
      rw [h1, valV_toK k r]
      unfold getC
      rw [List.find?_cons_of_neg (by simpa using e)]
theorem any_toK (k : Int) (cn : List (Int × Int)) : ((toK cn).any fun kv => decide (kv.1 = Sum.inl k)) = cn.any fun p => decide (p.1 = k) := by
  unfold toK
  rw [List.any_map]
  congr 1
  funext p
  exact decide_eq_decide.mpr inl_iff
theorem putK_toK (k v : Int) (cn : List (Int × Int)) : putK (toK cn) (Sum.inl k) (.int v) = toK (putC cn k v) := by
  unfold putK putC
  rw [any_toK]
  split
  · unfold toK
    rw [List.map_map, List.map_map]
    refine List.map_congr_left fun p _ => ?_
    show (if (Sum.inl p.1 : Key) = Sum.inl k then _ else _) = ((fun p : Int × Int => ((Sum.inl p.1 : Key), V.int p.2)) (if p.1 = k then (p.1, v) else p))
    by_cases e : p.1 = k
    · rw [if_pos (inl_iff.mpr e), if_pos e]
    · rw [if_neg (fun z => e (inl_iff.mp z)), if_neg e]
  · unfold toK
    rw [List.map_append]; rfl
theorem toK_len (cn : List (Int × Int)) : (toK cn).length = cn.length := List.length_map _
theorem putC_len (cn : List (Int × Int)) (k v : Int) : (putC cn k v).length ≤ cn.length + 1 := by
  unfold putC
  split
  · rw [List.length_map]; omega
  · rw [List.length_append, List.length_singleton]; omega
theorem getC_putC (cn : List (Int × Int)) (k v s : Int) : getC (putC cn k v) s = if s = k then some v else getC cn s := by
  unfold putC
  by_cases h : (cn.any fun p => decide (p.1 = k)) = true
  · rw [if_pos h]
    induction cn with
    | nil => simp at h
    | cons p r ih =>
      unfold getC at ih ⊢
      rw [List.map_cons]
      by_cases e : p.1 = k
      · rw [if_pos e]
        by_cases e2 : s = k
        · rw [if_pos e2, List.find?_cons_of_pos (by simp [e, e2])]; rfl
        · rw [if_neg e2, List.find?_cons_of_neg (by simp [e]; exact fun z => e2 z.symm), List.find?_cons_of_neg (by simp [e]; exact fun z => e2 z.symm)]
          by_cases h2 : (r.any fun p => decide (p.1 = k)) = true
          · rw [ih h2, if_neg e2]
          · have e3 : r.map (fun p => if p.1 = k then (p.1, v) else p) = r := by
              refine (List.map_congr_left fun q hq => ?_).trans (List.map_id _)
              rw [if_neg (fun z => h2 (List.any_eq_true.mpr ⟨q, hq, decide_eq_true z⟩))]; rfl
            rw [e3]
      · rw [if_neg e]
        have h2 : (r.any fun p => decide (p.1 = k)) = true := by
          rw [List.any_cons, decide_eq_false e] at h; exact h
        by_cases e2 : p.1 = s
        · rw [List.find?_cons_of_pos (by simpa using e2), List.find?_cons_of_pos (by simpa using e2), if_neg (fun z => e (e2.trans z))]
        · rw [List.find?_cons_of_neg (by simpa using e2), List.find?_cons_of_neg (by simpa using e2)]
          exact ih h2
  · rw [if_neg h]
    unfold getC
    rw [List.find?_append]
    by_cases e2 : s = k
    · rw [if_pos e2]
      have n : cn.find? (fun p => decide (p.1 = s)) = none := List.find?_eq_none.mpr fun p hp z => h (List.any_eq_true.mpr ⟨p, hp, by rw [← e2]; exact z⟩)
      rw [n]
      simp [e2]
    · rw [if_neg e2]
      have n : [(k, v)].find? (fun p : Int × Int => decide (p.1 = s)) = none := by
        rw [List.find?_cons_of_neg (by simpa using fun z => e2 z.symm)]; rfl
      rw [n, Option.or_none]
theorem getC_get {H : Hp} {c : Addr} {cn : List (Int × Int)} {x v : Int} (h : H c = some (.dK (toK cn))) (g : getC cn x = some v) : DGet H c (.int x) (some (.int v)) := by
  have z := DGet.k (k := Sum.inl x) h
  rw [valV_toK, g] at z
  exact z
end Song

/-! ### Cut: a named state behind a statement, a named answer behind an expression -/
namespace Song
open PySem L2
def sCut (t : TS) : TS := fun D σ H => ∃ G : L2.St → Hp → Prop, t { D with nx := G } σ H ∧ ∀ σ' H', G σ' H' → D.nx σ' H'
theorem ps_cut {X : Cx} {st : Stmt} {t : TS} (h : PS X st t) : PS X st (sCut t) := by
  refine ⟨fun pins s σ H D I hw => ?_⟩
  obtain ⟨G, h1, h2⟩ := hw
  refine thn (h.run pins s σ H _ I h1) fun f s1 q => ?_
  cases f with
  | next => obtain ⟨σ', H', I2, z⟩ := q; exact ⟨σ', H', I2, h2 _ _ z⟩
  | brk => exact q
  | cont => exact q
  | ret v => exact q
def eCut (t : TE) : TE := fun σ H Q => ∃ G : V → Hp → Prop, t σ H G ∧ ∀ v H', G v H' → Q v H'
theorem pe_cut {X : Cx} {e : Expr} {t : TE} (h : PE X e t) : PE X e (eCut t) := by
  refine ⟨fun pins s σ H Q I hw => ?_⟩
  obtain ⟨G, h1, h2⟩ := hw
  refine thn (h.run pins s σ H _ I h1) fun v s1 ⟨x, H1, I1, r, q⟩ => ?_
  exact ⟨x, H1, I1, r, h2 _ _ q⟩
/-- one of two readings of an expression -/
def tAlt (t1 t2 : TE) : TE := fun σ H Q => t1 σ H Q ∨ t2 σ H Q
theorem pe_alt {X : Cx} {e : Expr} {t1 t2 : TE} (a : PE X e t1) (b : PE X e t2) : PE X e (tAlt t1 t2) :=
  ⟨fun pins s σ H Q I h => h.elim (fun h => a.run pins s σ H Q I h) (fun h => b.run pins s σ H Q I h)⟩
/-- an own instance's class, for isinstance -/
theorem ty_ins {K : PySem.W.Frag} {H : Hp} {a C dx : Addr} {fs : List (Str × V)} (h : H a = some (.ins C dx fs)) (cl : Cls K C) (c : IsC K C) : TyX K H (.ref a) (.ref C) := .base (.ins h cl c.cls c.spe c.tak c.mro)
/-- lists of numbers in the heap, none of them long -/
def IntL (K : PySem.W.Frag) (H : Hp) (vs : List V) : Prop := ∀ v ∈ vs, ∃ (b : Addr) (ns : List Int), v = .ref b ∧ SqL K H b (ns.map V.int) ∧ ns.length ≤ 100
theorem IntL.mono {K : PySem.W.Frag} {H H' : Hp} {vs : List V} (s : Same H H') (h : IntL K H vs) : IntL K H' vs := fun v hv => by
  obtain ⟨b, ns, e, q, l⟩ := h v hv
  exact ⟨b, ns, e, s.seq q, l⟩
theorem IntL.nil {K : PySem.W.Frag} {H : Hp} : IntL K H [] := fun v hv => by cases hv
theorem IntL.cons {K : PySem.W.Frag} {H : Hp} {b : Addr} {ns : List Int} {vs : List V} (h : SqL K H b (ns.map V.int)) (l : ns.length ≤ 100) (t : IntL K H vs) : IntL K H (.ref b :: vs) := fun v hv => by
  rcases List.mem_cons.mp hv with e | e
  · exact ⟨b, ns, e, h, l⟩
  · exact t v e
theorem IntL.app {K : PySem.W.Frag} {H : Hp} {vs ws : List V} (h : IntL K H vs) (g : IntL K H ws) : IntL K H (vs ++ ws) := fun v hv => by
  rcases List.mem_append.mp hv with e | e
  · exact h v e
  · exact g v e
theorem rep_intsN (n : Nat) (ns : List Int) : (List.replicate n (ns.map V.int)).flatten = ((List.replicate n ns).flatten).map V.int := by
  rw [List.map_flatten, List.map_replicate]
end Song

/-! ### RgL: list(range(i, j, c)), c of any size; list(d.values()) -/
namespace Song
open PySem PySem.Spec PyProof.Rows L2
section
variable {P : Program} {w : World} {A : Around} {E : Value → Shared → Prop} {s : Shared}
theorem ext_long {R : Result → Shared → Prop} {g : Addr} {i j c : Int} {t u v : Tok} {n : Nat} (nh : A.handled = none) (hg : IsRange s.heap g i j c t u v) (big : Builtin.Range.small i j c = false)
    (hn : Builtin.Range.rangeSize i j c = n) (few : n ≤ 2 ^ 24) (L : Addr) (res : Value) (c₀ : Nat) (hL : s.heap.get? L = some { cls := .type "list", data := .seq #[] c₀ })
    (q : ∀ h2 tk acc c2, (∀ b o, b ≠ L → s.heap.get? b = some o → h2.get? b = some o) → h2.get? L = some { cls := .type "list", dict := none, data := .seq acc c2, slots := #[] } →
      ItemsOf (fun k v => ∃ t, v = .int (i + k * c) t) acc n → R (.ok (.ret res)) { s with heap := h2, toks := tk }) :
    wpAny (model P w) A.in1 (Builtin.List.listExtendWith (.ref L) (.ref g) res)
      (fun fin s2 => match fin with | .done f => R (.ok f) s2 | .again c2 => c2.quiet = true ∧ codeAny (model P w) A c2 R s2) (fun e s2 => R (.error e) s2) s := by
  have neG : L ≠ g := fun z => by rw [z, hg] at hL; simp at hL
  have ltL : L < s.heap.objs.size := Heap.lt_size hL
  have neI : L ≠ s.heap.objs.size := Nat.ne_of_lt ltL
  have nin : L ∉ [s.heap.objs.size] := fun z => neI (List.mem_singleton.mp z)
  have W := (Walks.longrange (prog := P) (w := w) (A := A.in1) nh s.heap.objs.size i c n).toS
  have loop : ∀ (h : Heap) (c₁ tk : Nat), IsLongIter h s.heap.objs.size (i + ((0 : Nat) : Int) * c) ((n : Int) - ((0 : Nat) : Int)) c → (∀ b o, b ≠ L → s.heap.get? b = some o → h.get? b = some o) →
      h.get? L = some { cls := .type "list", data := .seq #[] c₁ } → codeAny (model P w) A (.builtin "list.extend.loop" ⟨[.ref L, .ref s.heap.objs.size, res], []⟩) R { s with heap := h, toks := tk } := by
    intro h c₁ tk hit keep hL1
    refine codeAny_extend_loopS W (by rw [sizeLine_eq]; omega) L nin res n 0 _ #[] c₁ rfl (Nat.zero_le _) hit hL1 (ItemsOf.nil _) fun s2 acc c2 mv hL2 its => ?_
    rw [Moved.eq_with mv]
    refine q s2.heap s2.toks acc c2 (fun b o nb e => mv.heap b o (fun hm => ?_) (keep b o nb e)) hL2 its
    rcases List.mem_cons.mp hm with z | z
    · exact nb z
    · rw [List.mem_singleton] at z
      subst z
      exact absurd (Heap.lt_size e) (Nat.lt_irrefl _)
  unfold Builtin.List.listExtendWith
  refine wpAny_bind (wpAny_typeOf (T := "range") ⟨_, hg, rfl⟩ ?_)
  have k1 : Builtin.List.listSameRef (.ref L) (.ref g) = false := by simp [Builtin.List.listSameRef, neG]
  have k2 : (Value.type "range" == Value.type "list") = false := by decide
  have k3 : (Value.type "range" == Value.type "tuple") = false := by decide
  simp only [k1, k2, k3, Bool.or_false, Bool.false_eq_true, if_false]
  refine wpAny_bind (wpAny_pyIter_longrange hg big ?_)
  refine wpAny_bind (wpAny_holding (wpAny_hint_range (n := n) (Heap.get?_push_of_some _ hg) hn few ?_))
  have it1 : IsLongIter (s.heap.push { cls := .type "longrange_iterator", data := .fields #[rawInt i, rawInt (Builtin.Range.rangeSize i j c), rawInt c] }) s.heap.objs.size (i + ((0 : Nat) : Int) * c) ((n : Int) - ((0 : Nat) : Int)) c := by
    show IsLongIter _ _ _ _ _
    rw [hn]
    simpa using Heap.get?_push_size _ rfl
  have L1 := Heap.get?_push_of_some { cls := .type "longrange_iterator", data := .fields #[rawInt i, rawInt (Builtin.Range.rangeSize i j c), rawInt c] } hL
  refine wpAny_ite_split (fun _ => ?_) (fun _ => wpAny_pure ⟨plainId_quiet F.plain_extend_loop _, loop _ c₀ _ it1 (fun b o _ e => Heap.get?_push_of_some _ e) L1⟩)
  refine wpAny_bind (wpAny_rule ?_)
  refine wpAny_bind ?_
  show wpAny _ _ (updateSeq L (·.push .none) >>= fun _ => updateSeq L (·.pop)) _ _ _
  refine wpAny_bind (wpAny_updateSeq L1 rfl ?_)
  have L2 := Heap.get?_update_self (Obj.mapSeq (·.push Value.none)) L1 rfl
  refine wpAny_updateSeq (hz := by seq_fits) L2 rfl ?_
  have L3 := Heap.get?_update_self (Obj.mapSeq (·.pop)) L2 rfl
  refine wpAny_pure ⟨plainId_quiet F.plain_extend_loop _, loop _ _ _ ?_ (fun b o nb e => ?_) L3⟩
  · exact (Heap.get?_update_other _ _ neI).trans ((Heap.get?_update_other _ _ neI).trans it1)
  · exact (Heap.get?_update_other _ _ (Ne.symm nb)).trans ((Heap.get?_update_other _ _ (Ne.symm nb)).trans (Heap.get?_push_of_some _ e))
theorem init_long {R : Result → Shared → Prop} {g : Addr} {i j c : Int} {t u v : Tok} {n : Nat} (nh : A.handled = none) (hg : IsRange s.heap g i j c t u v) (big : Builtin.Range.small i j c = false)
    (hn : Builtin.Range.rangeSize i j c = n) (few : n ≤ 2 ^ 24) (L : Addr) (hL : s.heap.get? L = some { cls := .type "list", data := .seq #[] })
    (q : ∀ h2 tk acc c2, (∀ b o, b ≠ L → s.heap.get? b = some o → h2.get? b = some o) → h2.get? L = some { cls := .type "list", dict := none, data := .seq acc c2, slots := #[] } →
      ItemsOf (fun k v => ∃ t, v = .int (i + k * c) t) acc n → R (.ok (.ret .none)) { s with heap := h2, toks := tk }) :
    wpAny (model P w) A.in1 (Builtin.«list.__init__» ⟨[.ref L, .ref g], []⟩)
      (fun fin s2 => match fin with | .done f => R (.ok f) s2 | .again c2 => c2.quiet = true ∧ codeAny (model P w) A c2 R s2) (fun e s2 => R (.error e) s2) s := by
  have neG : L ≠ g := fun z => by rw [z, hg] at hL; simp at hL
  show wpAny _ _ (do let old ← Builtin.List.listItems (.ref L); Builtin.List.listUpdate (.ref L) (fun _ => #[]); letGo old.toList.reverse; Builtin.List.listExtendWith (.ref L) (.ref g) .none) _ _ s
  refine wpAny_bind ?_
  unfold Builtin.List.listItems
  refine wpAny_bind (wpAny_seqItems hL rfl (wpAny_pure ?_))
  show wpAny _ _ (updateSeq L (fun _ => #[]) >>= fun _ => letGo (#[] : Array Value).toList.reverse >>= fun _ => Builtin.List.listExtendWith (.ref L) (.ref g) .none) _ _ s
  refine wpAny_bind (wpAny_updateSeq hL rfl ?_)
  have L2 := Heap.get?_update_self (Obj.mapSeq (fun _ => (#[] : Array Value))) hL rfl
  have rem : ∀ b o, b ≠ L → s.heap.get? b = some o → (s.heap.update L (Obj.mapSeq (fun _ => (#[] : Array Value)))).get? b = some o :=
    fun b o nb e => (Heap.get?_update_other _ _ (Ne.symm nb)).trans e
  refine wpAny_bind (wpAny_letGo ?_)
  refine ext_long nh (rem g _ (Ne.symm neG) hg) big hn few L .none _ L2 fun h2 tk acc c2 keep hL2 its => ?_
  exact q h2 tk acc c2 (fun b o nb e => keep b o nb (rem b o nb e)) hL2 its
theorem list_range_any {Q : Value → Shared → Prop} {g : Addr} {i j c : Int} {t u v : Tok} {n : Nat} (nh : A.handled = none) (hg : IsRange s.heap g i j c t u v)
    (hn : Builtin.Range.rangeSize i j c = n) (few : n ≤ 2 ^ 24)
    (q : ∀ h2 tk acc c2, (∀ b o, s.heap.get? b = some o → h2.get? b = some o) →
      h2.get? s.heap.objs.size = some { cls := .type "list", dict := none, data := .seq acc c2, slots := #[] } → ItemsOf (fun k v => ∃ t, v = .int (i + k * c) t) acc n → Q (.ref s.heap.objs.size) { s with heap := h2, toks := tk }) :
    wpAny (model P w) A (call (.type "list") [.ref g]) Q E s := by
  cases hsm : Builtin.Range.small i j c with
  | true => exact call_list_range nh hg hsm hn few q
  | false =>
    refine callType_codes (Q₁ := fun ob s1 => ob = .ref s.heap.objs.size ∧ s1 = { s with heap := s.heap.push { cls := .type "list", data := .seq #[] } }) F.called_list (F.typeCall_list_1 _) F.entry_list_init (code_list_new _ ⟨rfl, rfl⟩) fun ob s1 z => ?_
    obtain ⟨rfl, rfl⟩ := z
    have hL : (s.heap.push { cls := .type "list", data := .seq #[] }).get? s.heap.objs.size = some { cls := .type "list", data := .seq #[] } := Heap.get?_push_size _ rfl
    refine ⟨⟨_, hL, rfl⟩, F.args_list_init_2 _ _, init_long (A := A.in1) nh (Heap.get?_push_of_some _ hg) hsm hn few _ hL fun h2 tk acc c2 keep hL2 its => ?_⟩
    exact ⟨rfl, q h2 tk acc c2 (fun b o e => keep b o (Nat.ne_of_lt (Heap.lt_size e)) (Heap.get?_push_of_some _ e)) hL2 its⟩
end
/-- the numbers i, i + c, .., n of them -/
def rgVc (i c : Int) (n : Nat) : List V := (List.range n).map fun k : Nat => V.int (i + (k : Int) * c)
theorem vals_rgc {i c : Int} {n : Nat} {acc : Array Value} (h : ItemsOf (fun k v => ∃ t, v = .int (i + k * c) t) acc n) : Vals (rgVc i c n) acc.toList := by
  have e : acc.toList.length = n := by rw [Array.length_toList]; exact h.1
  unfold rgVc
  rw [← e]
  refine vals_of_get acc.toList _ fun k u hk => ?_
  obtain ⟨t, rfl⟩ := h.2 k u (by rw [← hk, Array.getElem?_toList])
  exact ⟨t, rfl⟩
def tLstRg3 (ta : TA) : TE := fun σ H Q => ta σ H fun vs H1 => ∃ (i j c : Int) (n : Nat), vs = [.int i, .int j, .int c] ∧ c ≠ 0 ∧ Builtin.divisionGoesByPylong (j - i) c = false ∧ Builtin.Range.rangeSize i j c = n ∧ n ≤ 2 ^ 20 ∧ ∀ q, H1 q = none → Q (.ref q) (upd H1 q (.lst (rgVc i c n)))
theorem pe_listRg3 {X : Cx} {a b c : Expr} {ta : TA} {p pos p2 pos2 : Pos} (hc : X.calm = true) (hg : Gl X "list") (hm : X.mg "list" = none) (hg2 : Gl X "range") (hm2 : X.mg "range" = none) (ha : PA X [a, b, c] ta)
    (hs : starEach [a, b, c] X.env = (false, eval a X.env) :: starEach [b, c] X.env := by rfl) (hpl : (backTo pos2 (starEach [b, c] X.env)).any (·.1) = false := by rfl)
    (na : starEach [.Call (.Name "range" p2) [a, b, c] [] pos2] X.env = (false, eval (.Call (.Name "range" p2) [a, b, c] [] pos2) X.env) :: starEach [] X.env := by rfl) :
    PE X (.Call (.Name "list" p) [.Call (.Name "range" p2) [a, b, c] [] pos2] [] pos) (tLstRg3 ta) := by
  refine ⟨fun pins s σ H Q I h => ?_⟩
  refine Call_ (ld_blt I hg hm boot_list (callWith_type1 (args_cons (Call_ (ld_blt I hg2 hm2 boot_range (callWith_type1 (thn (ha.run pos2 pins s σ H _ I h) fun us s1 ⟨vs, H1, I1, r1, q1⟩ => ?_) hs hpl))) na) na))
  obtain ⟨i, j, k, n, e, c0, c1, c2, c3, q⟩ := q1
  subst e
  cases r1 with
  | cons r rr =>
    cases rr with
    | cons r' rr =>
      cases rr with
      | cons r'' rr =>
        cases rr
        obtain ⟨t, rfl⟩ := r
        obtain ⟨t', rfl⟩ := r'
        obtain ⟨t'', rfl⟩ := r''
        refine call_range_3 c0 (args_nil ?_) (.inl c1)
        have I2 : Inv X pins σ H1 { s1 with heap := s1.heap.push { cls := .type "range", data := .fields #[.int i t, .int j t', .int k t''] } } := I1.kept (t' := s1.toks) fun b o e => Heap.get?_push_of_some _ e
        refine list_range_any (n := n) (I2.ok.hd hc) (IsRange.new ..) c2 (by omega) fun h2 tk acc cc hk e2 hi => ?_
        refine ⟨.ref _, upd H1 _ (.lst (rgVc i k n)), I2.laid hk (Nat.le_refl _) (show ObjOk X.prog X.w _ _ _ (.lst (rgVc i k n)) from ⟨?_, acc.toList, cc, vals_rgc hi, ?_⟩), rfl, q _ (I2.hok.fresh (Nat.le_refl _))⟩
        · unfold rgVc
          rw [List.length_map, List.length_range, sizeLine_eq]; omega
        · rw [Array.toArray_toList]; exact e2
end Song

/-! ### NiT: a list not in a tuple of lists; calls of oneself -/
namespace Song
open PySem PySem.Spec PyProof.Rows L2
theorem _root_.L2.Room.units65 {k : Nat} {A : Around} (r : Room k A) : A.units + 65 < cLine := by have := r.un; omega
def rNotInT (K : PySem.W.Frag) : R2 := fun x y H Q => ∃ d ds, Dp K H x d ∧ Dp K H y (.tuple ds) ∧ SeqAt.shaped d = true ∧ SeqAt.shaped (.tuple ds) = true ∧ Q (.bl (!ds.any fun z => PyData.eqv z d)) H
theorem op_notInT {X : Cx} (hu : X.A.units + 65 < cLine) : OpR X (compareOp .NotIn) (rNotInT X.K) := by
  intro pins s σ H x y v u Q I rx ry h
  obtain ⟨d, ds, hd, he, sd, se, q⟩ := h
  obtain ⟨as, r1⟩ := Dp.reads I d x v hd rx
  obtain ⟨bs, r2⟩ := Dp.reads I (.tuple ds) y u he ry
  exact SeqAt.notIn_tuple_reads r2 r1 (SeqAt.canLay_of_shaped se) (SeqAt.canLay_of_shaped sd) (room_in_shaped sd hu) ⟨.bl _, H, I, rfl, q⟩
/-- a call of oneself, with less left -/
def tRec (sp : Nat → Sp) (r : Nat) (t : TA) : TE := fun σ H Q => ∃ r', r' < r ∧ tCall (sp r') [] E0 t σ H Q
theorem pe_rec {X : Cx} {x : Str} {r : Nat} {sp : Nat → Sp} {e : Expr} {es : List Expr} {t : TA} {p pos : Pos} (ih : ∀ r', r' < r → Fn X.prog X.w X.K X.mg X.base x (r' + 2) (sp r')) (hr : Room (r + 1) X.A) (hg : Gl X x) (ha : PA X (e :: es) t)
    (hdb : (x == ("__debug__" : Str)) = false := by decide) (he : starEach (e :: es) X.env = (false, eval e X.env) :: starEach es X.env := by rfl) (hpl : (backTo pos (starEach es X.env)).any (·.1) = false := by rfl) :
    PE X (.Call (.Name x p) (e :: es) [] pos) (tRec sp r t) := by
  refine ⟨fun pins s σ H Q I h => ?_⟩
  obtain ⟨r', hlt, h⟩ := h
  exact (pe_fn (ih r' hlt) (hr.mono (by omega)) hg ha hdb he hpl).run pins s σ H Q I h
end Song

/-! ### Gp1: rows of singers: where each sings, least gaps (plain) -/
namespace Song
/-- the places of the rows with s -/
def spots (s : Int) (R : List (List Int)) : List Int := (List.range R.length).filterMap fun i => if s ∈ R.getD i [] then some (i : Int) else none
def diffs : List Int → List Int
  | a :: b :: r => (b - a - 1) :: diffs (b :: r)
  | _ => []
def minO : List Int → Option Int
  | [] => none
  | a :: r => some (r.foldl min a)
theorem foldl_min_le : ∀ (r : List Int) (a : Int), r.foldl min a ≤ a ∧ ∀ y ∈ r, r.foldl min a ≤ y
  | [], a => ⟨Int.le_refl _, fun y h => by cases h⟩
  | b :: r, a => by
    obtain ⟨h1, h2⟩ := foldl_min_le r (min a b)
    have e : (b :: r).foldl min a = r.foldl min (min a b) := rfl
    rw [e]
    refine ⟨by omega, fun y hy => ?_⟩
    rcases List.mem_cons.mp hy with q | q
    · omega
    · exact h2 y q
theorem foldl_min_mem : ∀ (r : List Int) (a : Int), r.foldl min a ∈ a :: r
  | [], a => by simp
  | b :: r, a => by
    have h := foldl_min_mem r (min a b)
    have e : (b :: r).foldl min a = r.foldl min (min a b) := rfl
    rw [e]
    rcases List.mem_cons.mp h with q | q
    · rw [q]
      by_cases c : a ≤ b
      · rw [Int.min_eq_left c]; simp
      · rw [Int.min_eq_right (by omega)]; simp
    · simp [q]
theorem minO_eq {ns : List Int} {m : Int} (h : m ∈ ns) (hl : ∀ y ∈ ns, m ≤ y) : minO ns = some m := by
  cases ns with
  | nil => cases h
  | cons a r =>
    obtain ⟨h1, h2⟩ := foldl_min_le r a
    have h3 := hl _ (foldl_min_mem r a)
    show some _ = some m
    congr 1
    rcases List.mem_cons.mp h with q | q
    · omega
    · have := h2 m q; omega
theorem minO_some {ns : List Int} {m : Int} (h : minO ns = some m) : m ∈ ns ∧ ∀ y ∈ ns, m ≤ y := by
  cases ns with
  | nil => cases h
  | cons a r =>
    obtain ⟨h1, h2⟩ := foldl_min_le r a
    have e : r.foldl min a = m := Option.some.inj h
    refine ⟨by rw [← e]; exact foldl_min_mem r a, fun y hy => ?_⟩
    rcases List.mem_cons.mp hy with q | q
    · omega
    · have := h2 y q; omega
theorem minO_none {ns : List Int} : minO ns = none ↔ ns = [] := by
  cases ns with
  | nil => exact ⟨fun _ => rfl, fun _ => rfl⟩
  | cons a r => exact ⟨fun h => (nomatch h), fun h => (nomatch h)⟩
theorem minO_congr {ns ms : List Int} (h : ∀ x, x ∈ ns ↔ x ∈ ms) : minO ns = minO ms := by
  cases e : minO ms with
  | none =>
    rw [minO_none] at e ⊢
    rw [e] at h
    exact List.eq_nil_iff_forall_not_mem.mpr fun x hx => by simpa using (h x).mp hx
  | some m =>
    obtain ⟨h1, h2⟩ := minO_some e
    exact minO_eq ((h m).mpr h1) fun y hy => h2 y ((h y).mp hy)
theorem range_filterMap_congr {β : Type} {n : Nat} {f g : Nat → Option β} (h : ∀ i, i < n → f i = g i) : (List.range n).filterMap f = (List.range n).filterMap g := by
  induction n with
  | zero => rfl
  | succ n ih =>
    rw [List.range_succ, List.filterMap_append, List.filterMap_append, ih fun i hi => h i (by omega)]
    congr 1
    simp only [List.filterMap_cons, List.filterMap_nil]
    rw [h n (by omega)]
theorem spots_nil (s : Int) : spots s [] = [] := rfl
theorem spots_snoc (s : Int) (R : List (List Int)) (r : List Int) : spots s (R ++ [r]) = spots s R ++ (if s ∈ r then [(R.length : Int)] else []) := by
  unfold spots
  rw [List.length_append, List.length_singleton, List.range_succ, List.filterMap_append]
  congr 1
  · refine range_filterMap_congr fun i hi => ?_
    rw [show (R ++ [r]).getD i [] = R.getD i [] by rw [List.getD_eq_getElem?_getD, List.getD_eq_getElem?_getD, List.getElem?_append_left hi]]
  · simp only [List.filterMap_cons, List.filterMap_nil]
    rw [show (R ++ [r]).getD R.length [] = r by rw [List.getD_eq_getElem?_getD, List.getElem?_append_right (Nat.le_refl _)]; simp]
    by_cases c : s ∈ r
    · rw [if_pos c, if_pos c]
    · rw [if_neg c, if_neg c]
theorem spots_mem {s : Int} {R : List (List Int)} {x : Int} : x ∈ spots s R ↔ ∃ i : Nat, i < R.length ∧ s ∈ R.getD i [] ∧ x = i := by
  unfold spots
  rw [List.mem_filterMap]
  constructor
  · rintro ⟨i, hi, h⟩
    rw [List.mem_range] at hi
    by_cases c : s ∈ R.getD i []
    · rw [if_pos c] at h
      exact ⟨i, hi, c, (Option.some.inj h).symm⟩
    · rw [if_neg c] at h; cases h
  · rintro ⟨i, hi, c, rfl⟩
    exact ⟨i, List.mem_range.mpr hi, by rw [if_pos c]⟩
theorem snoc_ind {α : Type} {P : List α → Prop} (h0 : P []) (hs : ∀ l a, P l → P (l ++ [a])) : ∀ l, P l := fun l => by
  have h : ∀ n (l : List α), l.length = n → P l := fun n => by
    induction n with
    | zero => intro l hl; rw [List.eq_nil_of_length_eq_zero hl]; exact h0
    | succ n ih =>
      intro l hl
      have hne : l ≠ [] := fun e => by rw [e] at hl; cases hl
      rw [← List.dropLast_concat_getLast hne]
      exact hs _ _ (ih _ (by rw [List.length_dropLast]; omega))
  exact h _ l rfl
theorem spots_sorted (s : Int) (R : List (List Int)) : (spots s R).Pairwise (· < ·) := by
  refine snoc_ind (P := fun R => (spots s R).Pairwise (· < ·)) List.Pairwise.nil (fun l a h => ?_) R
  rw [spots_snoc]
  refine List.pairwise_append.mpr ⟨h, by split <;> simp, fun x hx y hy => ?_⟩
  obtain ⟨i, hi, _, rfl⟩ := spots_mem.mp hx
  split at hy
  · rw [List.mem_singleton.mp hy]; omega
  · cases hy
theorem diffs_snoc : ∀ (l : List Int) (n : Int), diffs (l ++ [n]) = diffs l ++ (match l.getLast? with | some x => [n - x - 1] | none => [])
  | [], n => rfl
  | [a], n => rfl
  | a :: b :: r, n => by
    have ih := diffs_snoc (b :: r) n
    show (b - a - 1) :: diffs (b :: r ++ [n]) = (b - a - 1) :: (diffs (b :: r) ++ _)
    rw [ih, List.getLast?_cons_cons]
theorem diffs_range : ∀ l : List Int, (List.range (l.length - 1)).map (fun i => l.getD (i + 1) 0 - l.getD i 0 - 1) = diffs l
  | [] => rfl
  | [_] => rfl
  | a :: b :: r => by
    have ih := diffs_range (b :: r)
    show (List.range (r.length + 1)).map _ = (b - a - 1) :: diffs (b :: r)
    rw [← ih, List.range_succ_eq_map, List.map_cons, List.map_map]
    rfl
/-! #### the going over with a dict -/
def lbStep (n : Int) (st : List Int × List (Int × Int)) (s : Int) : List Int × List (Int × Int) := ((match getC st.2 s with | some l => st.1 ++ [n - l - 1] | none => st.1), putC st.2 s n)
def lbRow (st : List Int × List (Int × Int)) (n : Int) (row : List Int) : List Int × List (Int × Int) := row.foldl (lbStep n) st
def lbFrom : Nat → List Int × List (Int × Int) → List (List Int) → List Int × List (Int × Int)
  | _, st, [] => st
  | i, st, r :: R => lbFrom (i + 1) (lbRow st i r) R
def lb (R : List (List Int)) : List Int × List (Int × Int) := lbFrom 0 ([], []) R
def least (R : List (List Int)) : Option Int := minO (lb R).1
theorem lbFrom_snoc : ∀ (R : List (List Int)) (i : Nat) (st : List Int × List (Int × Int)) (r : List Int), lbFrom i st (R ++ [r]) = lbRow (lbFrom i st R) ((i + R.length : Nat) : Int) r
  | [], i, st, r => rfl
  | a :: R, i, st, r => by
    show lbFrom (i + 1) (lbRow st i a) (R ++ [r]) = lbRow (lbFrom (i + 1) (lbRow st i a) R) _ r
    rw [lbFrom_snoc R, show i + 1 + R.length = i + (a :: R).length by rw [List.length_cons]; omega]
theorem lb_snoc (R : List (List Int)) (r : List Int) : lb (R ++ [r]) = lbRow (lb R) (R.length : Int) r := by
  unfold lb
  rw [lbFrom_snoc, Nat.zero_add]
theorem lbRow_spec (n : Int) : ∀ (row : List Int) (st : List Int × List (Int × Int)), row.Nodup →
    (∀ s, getC (lbRow st n row).2 s = if s ∈ row then some n else getC st.2 s) ∧ ∀ x, x ∈ (lbRow st n row).1 ↔ x ∈ st.1 ∨ ∃ s ∈ row, ∃ l, getC st.2 s = some l ∧ x = n - l - 1
  | [], st, _ => ⟨fun s => by simp [lbRow], fun x => by simp [lbRow]⟩
  | a :: row, st, nd => by
    obtain ⟨n1, n2⟩ := List.nodup_cons.mp nd
    obtain ⟨h1, h2⟩ := lbRow_spec n row (lbStep n st a) n2
    have e : lbRow st n (a :: row) = lbRow (lbStep n st a) n row := rfl
    rw [e]
    have g : ∀ s, getC (lbStep n st a).2 s = if s = a then some n else getC st.2 s := fun s => getC_putC _ _ _ _
    refine ⟨fun s => ?_, fun x => ?_⟩
    · rw [h1, g]
      by_cases c : s ∈ row
      · rw [if_pos c, if_pos (by simp [c])]
      · rw [if_neg c]
        by_cases c2 : s = a
        · rw [if_pos c2, if_pos (by simp [c2])]
        · rw [if_neg c2, if_neg (by simp [c, c2])]
    · rw [h2]
      have m : x ∈ (lbStep n st a).1 ↔ x ∈ st.1 ∨ ∃ l, getC st.2 a = some l ∧ x = n - l - 1 := by
        unfold lbStep
        cases c : getC st.2 a with
        | none => simp
        | some l => simp
      rw [m]
      constructor
      · rintro ((h | ⟨l, hl, hx⟩) | ⟨s, hs, l, hl, hx⟩)
        · exact .inl h
        · exact .inr ⟨a, by simp, l, hl, hx⟩
        · rw [g, if_neg (fun z => n1 (by rw [← z]; exact hs))] at hl
          exact .inr ⟨s, by simp [hs], l, hl, hx⟩
      · rintro (h | ⟨s, hs, l, hl, hx⟩)
        · exact .inl (.inl h)
        · rcases List.mem_cons.mp hs with q | q
          · subst q
            exact .inl (.inr ⟨l, hl, hx⟩)
          · refine .inr ⟨s, q, l, ?_, hx⟩
            rw [g, if_neg (fun z => n1 (by rw [← z]; exact q))]
            exact hl
theorem lb_spec (R : List (List Int)) : (∀ r ∈ R, r.Nodup) → (∀ s, getC (lb R).2 s = (spots s R).getLast?) ∧ ∀ x, x ∈ (lb R).1 ↔ ∃ s, x ∈ diffs (spots s R) := by
  refine snoc_ind (P := fun R => (∀ r ∈ R, r.Nodup) → (∀ s, getC (lb R).2 s = (spots s R).getLast?) ∧ ∀ x, x ∈ (lb R).1 ↔ ∃ s, x ∈ diffs (spots s R)) ?_ ?_ R
  · intro _
    exact ⟨fun s => rfl, fun x => ⟨fun h => (nomatch h), fun ⟨s, h⟩ => (nomatch h)⟩⟩
  · intro R r ih nd
    obtain ⟨i1, i2⟩ := ih fun q hq => nd q (by simp [hq])
    obtain ⟨h1, h2⟩ := lbRow_spec (R.length : Int) r (lb R) (nd r (by simp))
    rw [lb_snoc]
    refine ⟨fun s => ?_, fun x => ?_⟩
    · rw [h1, spots_snoc, i1]
      by_cases c : s ∈ r
      · rw [if_pos c, if_pos c, List.getLast?_append]; rfl
      · rw [if_neg c, if_neg c, List.append_nil]
    · rw [h2, i2]
      constructor
      · rintro (⟨s, h⟩ | ⟨s, hs, l, hl, hx⟩)
        · refine ⟨s, ?_⟩
          rw [spots_snoc]
          by_cases c : s ∈ r
          · rw [if_pos c, diffs_snoc]; exact List.mem_append.mpr (.inl h)
          · rw [if_neg c, List.append_nil]; exact h
        · refine ⟨s, ?_⟩
          rw [spots_snoc, if_pos hs, diffs_snoc, ← i1, hl]
          exact List.mem_append.mpr (.inr (by simp [hx]))
      · rintro ⟨s, h⟩
        rw [spots_snoc] at h
        by_cases c : s ∈ r
        · rw [if_pos c, diffs_snoc, ← i1] at h
          rcases List.mem_append.mp h with q | q
          · exact .inl ⟨s, q⟩
          · cases e : getC (lb R).2 s with
            | none => rw [e] at q; cases q
            | some l =>
              rw [e] at q
              exact .inr ⟨s, c, l, e, List.mem_singleton.mp q⟩
        · rw [if_neg c, List.append_nil] at h
          exact .inl ⟨s, h⟩
/-! #### the law's own going over, singer by singer -/
def lawFound (R : List (List Int)) : Nat → List Int
  | 0 => []
  | n + 1 => lawFound R n ++ diffs (spots (n : Int) R)
theorem lawFound_mem (R : List (List Int)) (x : Int) : ∀ n, x ∈ lawFound R n ↔ ∃ s : Nat, s < n ∧ x ∈ diffs (spots (s : Int) R)
  | 0 => ⟨fun h => (nomatch h), fun ⟨s, h, _⟩ => absurd h (by omega)⟩
  | n + 1 => by
    show x ∈ lawFound R n ++ _ ↔ _
    rw [List.mem_append, lawFound_mem R x n]
    constructor
    · rintro (⟨s, h1, h2⟩ | h)
      · exact ⟨s, by omega, h2⟩
      · exact ⟨n, by omega, h⟩
    · rintro ⟨s, h1, h2⟩
      by_cases c : s = n
      · subst c; exact .inr h2
      · exact .inl ⟨s, by omega, h2⟩
/-- rows of singers 0 to 5, each once in a row -/
def RowsOk (R : List (List Int)) : Prop := ∀ r ∈ R, r.Nodup ∧ ∀ s ∈ r, 0 ≤ s ∧ s < 6
theorem getD_mem {R : List (List Int)} {i : Nat} (h : i < R.length) : R.getD i [] ∈ R := by
  rw [List.getD_eq_getElem?_getD, List.getElem?_eq_getElem h]
  exact List.getElem_mem h
theorem spots_out {R : List (List Int)} (h : RowsOk R) {s : Int} (hs : ¬ (0 ≤ s ∧ s < 6)) : spots s R = [] := List.eq_nil_iff_forall_not_mem.mpr fun x hx => by
  obtain ⟨i, hi, hm, _⟩ := spots_mem.mp hx
  exact hs ((h _ (getD_mem hi)).2 s hm)
theorem lawFound_least {R : List (List Int)} (h : RowsOk R) : minO (lawFound R 6) = least R := by
  refine minO_congr fun x => ?_
  rw [lawFound_mem, (lb_spec R fun r hr => (h r hr).1).2]
  constructor
  · rintro ⟨s, _, hx⟩; exact ⟨_, hx⟩
  · rintro ⟨s, hx⟩
    by_cases c : 0 ≤ s ∧ s < 6
    · exact ⟨s.toNat, by omega, by rw [show ((s.toNat : Nat) : Int) = s by omega]; exact hx⟩
    · rw [spots_out h c] at hx; cases hx
/-! #### when there is none -/
theorem spots_len (s : Int) (R : List (List Int)) : (spots s R).length = R.countP fun r => decide (s ∈ r) := by
  refine snoc_ind (P := fun R => (spots s R).length = R.countP fun r => decide (s ∈ r)) rfl (fun l a h => ?_) R
  rw [spots_snoc, List.length_append, h, List.countP_append, List.countP_singleton]
  congr 1
  by_cases c : s ∈ a
  · rw [if_pos c, if_pos (decide_eq_true c)]; rfl
  · rw [if_neg c, if_neg (by simpa using c)]; rfl
theorem diffs_nil : ∀ {l : List Int}, diffs l = [] ↔ l.length ≤ 1
  | [] => by simp [diffs]
  | [_] => by simp [diffs]
  | _ :: _ :: _ => by simp [diffs]
theorem least_none {R : List (List Int)} (nd : ∀ r ∈ R, r.Nodup) : least R = none ↔ ∀ s, R.countP (fun r => decide (s ∈ r)) ≤ 1 := by
  unfold least
  rw [minO_none]
  have h2 := (lb_spec R nd).2
  constructor
  · intro h s
    rw [← spots_len, ← diffs_nil]
    exact List.eq_nil_iff_forall_not_mem.mpr fun x hx => by
      have := (h2 x).mpr ⟨s, hx⟩
      rw [h] at this; cases this
  · intro h
    exact List.eq_nil_iff_forall_not_mem.mpr fun x hx => by
      obtain ⟨s, hs⟩ := (h2 x).mp hx
      have := h s
      rw [← spots_len, ← diffs_nil] at this
      rw [this] at hs; cases hs
theorem least_perm {R R' : List (List Int)} (p : R.Perm R') (nd : ∀ r ∈ R, r.Nodup) : least R = none ↔ least R' = none := by
  rw [least_none nd, least_none fun r hr => nd r (p.symm.subset hr)]
  constructor
  · intro h s; rw [← p.countP_eq]; exact h s
  · intro h s; rw [p.countP_eq]; exact h s
end Song

/-! ### Gp2: all orders, the first of the widest (plain; k08) -/
namespace Song
/-- one turn of all_orders: pairs of an order and what is left -/
def ordStep (f : List (List Int × List Int)) : List (List Int × List Int) := f.flatMap fun p => p.2.map fun one => (p.1 ++ [one], p.2.filter fun other => decide (other ≠ one))
def ordIter : Nat → List (List Int × List Int) → List (List Int × List Int)
  | 0, f => f
  | n + 1, f => ordStep (ordIter n f)
def upto (n : Nat) : List Int := (List.range n).map fun i : Nat => (i : Int)
def allOrders (n : Nat) : List (List Int) := (ordIter n [([], upto n)]).map (·.1)
/-- one turn of the law's orders -/
def lordStep (n : Nat) (f : List (List Int)) : List (List Int) := f.flatMap fun o => ((upto n).filter fun one => decide (one ∉ o)).map fun one => o ++ [one]
def lordIter (n : Nat) : Nat → List (List Int)
  | 0 => [[]]
  | k + 1 => lordStep n (lordIter n k)
def lawOrders (n : Nat) : List (List Int) := lordIter n n
theorem orders_all : ((List.range 6).all fun n => decide (allOrders n = lawOrders n) && ((lawOrders n).all fun o => o.isPerm (upto n)) && decide ((lawOrders n).head? = some (upto n)) && decide ((lawOrders n).length ≤ 120)
    && ((List.range (n + 1)).all fun k => decide ((ordIter k [([], upto n)]).length ≤ 120) && ((ordIter k [([], upto n)]).all fun p => decide (p.1.length = k) && decide (p.2.length ≤ n)) && decide ((lordIter n k).length ≤ 120) && ((lordIter n k).all fun o => decide (o.length = k)))) = true := by decide +kernel
structure OrdOk (n : Nat) : Prop where
  eq : allOrders n = lawOrders n
  perm : ∀ o ∈ lawOrders n, o.Perm (upto n)
  head : (lawOrders n).head? = some (upto n)
  few : (lawOrders n).length ≤ 120
  it : ∀ k ≤ n, (ordIter k [([], upto n)]).length ≤ 120 ∧ (∀ p ∈ ordIter k [([], upto n)], p.1.length = k ∧ p.2.length ≤ n) ∧ (lordIter n k).length ≤ 120 ∧ ∀ o ∈ lordIter n k, o.length = k
theorem ordOk {n : Nat} (h : n ≤ 5) : OrdOk n := by
  have a := List.all_eq_true.mp orders_all n (List.mem_range.mpr (by omega))
  simp only [Bool.and_eq_true, decide_eq_true_eq, List.all_eq_true] at a
  obtain ⟨⟨⟨⟨a1, a2⟩, a3⟩, a4⟩, a5⟩ := a
  refine ⟨a1, fun o ho => List.isPerm_iff.mp (a2 o ho), a3, a4, fun k hk => ?_⟩
  obtain ⟨⟨⟨b1, b2⟩, b3⟩, b4⟩ := a5 k (List.mem_range.mpr (by omega))
  exact ⟨b1, b2, b3, b4⟩
/-! #### the first of the greatest -/
def bestStep {α : Type} (b : Option Int × α) (p : Int × α) : Option Int × α := match b.1 with
  | none => (some p.1, p.2)
  | some g => if p.1 > g then (some p.1, p.2) else b
theorem best_some {α : Type} : ∀ (ps : List (Int × α)) (g : Int) (o : α), ∃ g' o', ps.foldl bestStep (some g, o) = (some g', o') ∧ (∀ p ∈ (g, o) :: ps, p.1 ≤ g') ∧ ((g, o) :: ps).find? (fun p => decide (p.1 = g')) = some (g', o')
  | [], g, o => ⟨g, o, rfl, fun p hp => by rw [List.mem_singleton.mp hp]; exact Int.le_refl _, by simp⟩
  | (h, u) :: r, g, o => by
    by_cases c : h > g
    · obtain ⟨g', o', e1, e2, e3⟩ := best_some r h u
      have hg := e2 (h, u) (by simp)
      simp only at hg
      refine ⟨g', o', ?_, fun p hp => ?_, ?_⟩
      · rw [← e1]
        show r.foldl bestStep (bestStep (some g, o) (h, u)) = _
        congr 1
        show (if h > g then _ else _) = _
        rw [if_pos c]
      · rcases List.mem_cons.mp hp with q | q
        · rw [q]; show g ≤ g'; omega
        · exact e2 p q
      · rw [List.find?_cons_of_neg (by simp; omega)]
        exact e3
    · obtain ⟨g', o', e1, e2, e3⟩ := best_some r g o
      have hg := e2 (g, o) (by simp)
      simp only at hg
      refine ⟨g', o', ?_, fun p hp => ?_, ?_⟩
      · rw [← e1]
        show r.foldl bestStep (bestStep (some g, o) (h, u)) = _
        congr 1
        show (if h > g then _ else _) = _
        rw [if_neg c]
      · rcases List.mem_cons.mp hp with q | q
        · rw [q]; exact hg
        rcases List.mem_cons.mp q with q | q
        · rw [q]; show h ≤ g'; omega
        · exact e2 p (by simp [q])
      · by_cases e : g = g'
        · rw [List.find?_cons_of_pos (by simpa using e)]
          rw [List.find?_cons_of_pos (by simpa using e)] at e3
          exact e3
        · rw [List.find?_cons_of_neg (by simpa using e)] at e3 ⊢
          rw [List.find?_cons_of_neg (by simp; omega)]
          exact e3
theorem best_all {α : Type} {ps : List (Int × α)} {x : α} {g' : Int} {o' : α} (h : ps ≠ []) (e : ps.foldl bestStep (none, x) = (some g', o')) : (∀ p ∈ ps, p.1 ≤ g') ∧ ps.find? (fun p => decide (p.1 = g')) = some (g', o') := by
  cases ps with
  | nil => exact absurd rfl h
  | cons p r =>
    obtain ⟨g, o⟩ := p
    obtain ⟨g2, o2, e1, e2, e3⟩ := best_some r g o
    have e4 : ((g, o) :: r).foldl bestStep (none, x) = r.foldl bestStep (some g, o) := rfl
    rw [e4, e1] at e
    injection e with z1 z2
    injection z1 with z1
    subst z1 z2
    exact ⟨e2, e3⟩
end Song

/-! ### Gw1: rows of singers in the heap; check_groups, least_between -/
namespace Song
open PySem L2
def spotF (s : Int) (R : List (List Int)) (i : Nat) : Option V := if s ∈ R.getD i [] then some (V.int (i : Int)) else none
theorem spotF_all (s : Int) (R : List (List Int)) : (List.range R.length).filterMap (spotF s R) = (spots s R).map V.int := by
  unfold spots
  rw [List.map_filterMap]
  congr 1
  funext i
  unfold spotF
  split <;> rfl
def RowAt (K : PySem.W.Frag) (H : Hp) (v : V) (r : List Int) : Prop := ∃ b, v = .ref b ∧ SqL K H b (r.map V.int)
theorem RowAt.mono {K : PySem.W.Frag} {H H' : Hp} {v : V} {r : List Int} (s : Same H H') (h : RowAt K H v r) : RowAt K H' v r := by
  obtain ⟨b, e, q⟩ := h
  exact ⟨b, e, s.seq q⟩
def Rows (K : PySem.W.Frag) (H : Hp) (vs : List V) (R : List (List Int)) : Prop := vs.length = R.length ∧ ∀ (i : Nat) v, vs[i]? = some v → RowAt K H v (R.getD i [])
theorem Rows.mono {K : PySem.W.Frag} {H H' : Hp} {vs : List V} {R : List (List Int)} (s : Same H H') (h : Rows K H vs R) : Rows K H' vs R := ⟨h.1, fun i v e => (h.2 i v e).mono s⟩
theorem Rows.nil {K : PySem.W.Frag} {H : Hp} : Rows K H [] [] := ⟨rfl, fun i v e => by simp at e⟩
theorem getD_app {R : List (List Int)} {r : List Int} {i : Nat} (h : i < R.length) : (R ++ [r]).getD i [] = R.getD i [] := by
  rw [List.getD_eq_getElem?_getD, List.getD_eq_getElem?_getD, List.getElem?_append_left h]
theorem getD_last {R : List (List Int)} {r : List Int} : (R ++ [r]).getD R.length [] = r := by
  rw [List.getD_eq_getElem?_getD, List.getElem?_append_right (Nat.le_refl _)]; simp
theorem Rows.snoc {K : PySem.W.Frag} {H : Hp} {vs : List V} {R : List (List Int)} {v : V} {r : List Int} (h : Rows K H vs R) (q : RowAt K H v r) : Rows K H (vs ++ [v]) (R ++ [r]) := by
  refine ⟨by rw [List.length_append, List.length_append, h.1]; rfl, fun i u e => ?_⟩
  by_cases c : i < vs.length
  · rw [List.getElem?_append_left c] at e
    rw [getD_app (by rw [← h.1]; exact c)]
    exact h.2 i u e
  · have ei : i = vs.length := by
      have := (List.getElem?_eq_some_iff.mp e).1
      simp at this; omega
    subst ei
    rw [List.getElem?_append_right (Nat.le_refl _)] at e
    simp at e
    subst e
    rw [h.1, getD_last]
    exact q
theorem Rows.at {K : PySem.W.Frag} {H : Hp} {vs : List V} {R : List (List Int)} (h : Rows K H vs R) {o : Int} (h0 : 0 ≤ o) (h1 : o < (R.length : Int)) : ∃ v, atI vs o = some v ∧ RowAt K H v (R.getD o.toNat []) := by
  obtain ⟨j, rfl⟩ := Int.eq_ofNat_of_zero_le h0
  have hj : j < vs.length := by rw [h.1]; omega
  exact ⟨vs[j], atI_nat (List.getElem?_eq_getElem hj), h.2 j _ (List.getElem?_eq_getElem hj)⟩
theorem Rows.all {K : PySem.W.Frag} {H : Hp} {vs : List V} {R : List (List Int)} (h : Rows K H vs R) {v : V} (hv : v ∈ vs) : ∃ r ∈ R, RowAt K H v r := by
  obtain ⟨i, hi, rfl⟩ := List.mem_iff_getElem.mp hv
  exact ⟨_, getD_mem (by rw [← h.1]; exact hi), h.2 i _ (List.getElem?_eq_getElem hi)⟩
/-- the rows in an order -/
def pick (R : List (List Int)) (os : List Int) : List (List Int) := os.map fun o => R.getD o.toNat []
/-- what are songs of one to three singers -/
def GrOk (R : List (List Int)) : Prop := ∀ r ∈ R, areSingers r 6 = true
theorem GrOk.rows {R : List (List Int)} (h : GrOk R) : RowsOk R := fun r hr => by
  obtain ⟨_, _, h3, h4⟩ := areS_len (h r hr)
  exact ⟨(pw_of h4).imp (fun {a b} z => by omega), h3⟩
theorem GrOk.pick {R : List (List Int)} (h : GrOk R) {os : List Int} (hi : InB R.length os) : GrOk (pick R os) := fun r hr => by
  obtain ⟨o, ho, rfl⟩ := List.mem_map.mp hr
  exact h _ (getD_mem (by have := hi o ho; omega))
section
variable {P : Program} {w : World} {K : PySem.W.Frag} {mg : Str → Option Value} {base : Heap}
theorem sc_least_between : FnScope ["songs", "order", "found", "last", "at", "place", "singer"] ["songs", "order"] (defScope s_least_between) := ⟨rfl, rfl, rfl, by decide +kernel, rfl, by decide +kernel, by decide +kernel⟩
def sp_least_between (K : PySem.W.Frag) : Sp := fun vs H Q _ => ∃ (a b : Addr) (cs : List V) (R : List (List Int)) (os : List Int), vs = [.ref a, .ref b] ∧ SqL K H a cs ∧ Rows K H cs R ∧ (∀ r ∈ R, r.length ≤ 3) ∧ SqL K H b (os.map V.int) ∧ InB R.length os ∧ os.length ≤ 100 ∧
  ∀ H', Same H H' → Q (optV (least (pick R os))) H'
theorem lbStep_len (n : Int) (st : List Int × List (Int × Int)) (s : Int) : (lbStep n st s).1.length ≤ st.1.length + 1 ∧ (lbStep n st s).2.length ≤ st.2.length + 1 := by
  refine ⟨?_, putC_len _ _ _⟩
  unfold lbStep
  cases getC st.2 s with
  | none => show st.1.length ≤ _; omega
  | some l => show (st.1 ++ [_]).length ≤ _; rw [List.length_append, List.length_singleton]; omega
theorem fra2_same {H H' : Hp} {a b x : Addr} {o : HO} (f : Fra [a, b] H H') (n1 : x ≠ a) (n2 : x ≠ b) (h : H x = some o) : H' x = some o := f x o (by simp [n1, n2]) h
theorem fn_least_between (T : Tx K mg) : Fn P w K mg base "least_between" 1 (sp_least_between K) := by
  obtain ⟨fd, F⟩ := T.d_least_between
  refine ⟨_, fd, _, F.ok (CX := CX0) sc_least_between (fun vs H Q E h => ?_) (fun cdv A outer s H vs Q E hr h => ?_), T.g_least_between, F.kp, F.bindsN fun _ _ _ _ _ _ us hl => match us, hl with | [_, _], _ => rfl⟩
  · obtain ⟨a, b, cs, R, os, rfl, _⟩ := h; rfl
  · obtain ⟨a, b, cs, R, os, rfl, ha, hR, h3, hb, hi, hl, q⟩ := h
    refine ⟨_, PSs.nox (pss_cons (ps_par (i := 2) (j := 3) (by rfl) sc_least_between.nd rfl rfl (by decide) rfl rfl (pa_cons (pe_lst pa_nil) (pa_cons pe_dnewK pa_nil)) (by rfl))
      (pss_cons (ps_for PassesOwn.never rfl (show PI _ _ _ (iEnum K _) from pi_enum (by rfl) T.enumerate (pa_cons (pv 1) pa_nil)) (show PG _ _ (gTup K _ _) from pg_tup rfl (pgs_cons (pg_name (i := 4) sc_least_between.nd rfl (by first | exact Or.inl rfl | exact Or.inr rfl)) (pgs_cons (pg_name (i := 5) sc_least_between.nd rfl (by first | exact Or.inl rfl | exact Or.inr rfl)) pgs_nil)))
      (pss_one (ps_for PassesOwn.never rfl (show PI _ _ _ (iList K _) from pi_list (pe_ix (show IxR _ (rIxL K) from ix_list) (pv 0) (pv 5) (fun _ _ => rfl))) (pg_name (i := 6) sc_least_between.nd rfl (by first | exact Or.inl rfl | exact Or.inr rfl))
      (pss_cons (ps_if (pt_cmp (pc_din (hu_of hr) (pv 6) (pv 3))) (pss_one (ps_expr (show PE _ _ (tBM K _ _ _ _) from pe_bm PySem.F.plainAttrs_list PySem.F.slot_list_append PySem.F.type_list_append mt_append (pv 2) (pa_cons (pe_op op_sub (pe_op op_sub (pv 4) (pe_dget (hu_of hr) (pv 3) (pv 6) (fun _ _ => rfl))) pe_int) pa_nil)))) pss_nil)
      (pss_one (ps_dput (hu_of hr) (pv 3) (pv 6) (pv 4) rfl))))))
      (pss_one (ps_ret (pe_ifExp (pt_cmpR (show OpR _ _ (rNeD K) from op_neD hr.units) (pv 2) (pe_lst pa_nil) (nomark _)) (pe_callB (show CallR _ _ (rMin K) from cr_min (by rfl)) (by rfl) T.min (by decide +kernel) (pa_cons (pv 2) pa_nil)) pe_non))))), ?_⟩
    refine ⟨Nat.zero_le _, fun l nl => ?_⟩
    refine to_new nl fun H1 s1 hl1 => ?_
    intro d nd
    refine to_new nd fun H2 s2 hd2 => ?_
    have hl2 := s2 _ _ hl1
    have nld : l ≠ d := ne_of_none hl1 nd
    have s02 := s1.trans s2
    have nS : ∀ x ∈ [l, d], H x = none := fun x hx => by
      simp only [List.mem_cons, List.not_mem_nil, or_false] at hx
      rcases hx with e | e <;> rw [e]
      · exact nl
      · exact s1.free nd
    refine ⟨_, _, rfl, ?_⟩
    have rowLen : ∀ o ∈ os, (R.getD o.toNat []).length ≤ 3 := fun o ho => h3 _ (getD_mem (by have := hi o ho; omega))
    refine ⟨_, rfl, b, _, rfl, s02.seq hb, for_it (walk_enum (xs := os.map V.int)) (fun i σ H' => ∃ (st : List Int × List (Int × Int)) (x4 x5 x6 : Option V), σ = [some (.ref a), some (.ref b), some (.ref l), some (.ref d), x4, x5, x6] ∧
      Fra [l, d] H2 H' ∧ H' l = some (.lst (st.1.map V.int)) ∧ H' d = some (.dK (toK st.2)) ∧ st = lb (pick R (os.take i)) ∧ st.1.length ≤ 3 * i ∧ st.2.length ≤ 3 * i) ?_ ?_ ?_ ?_⟩
    · exact ⟨([], []), _, _, _, rfl, Fra.refl _ _, hl2, hd2, rfl, Nat.le_refl _, Nat.le_refl _⟩
    · rintro i σ H' _ ⟨st, x4, x5, x6, rfl, f, _⟩
      exact (f.back s02 nS).seq hb
    · rintro i v σ H3 H4 hi3 ⟨st, x4, x5, x6, rfl, f3, hl3, hd3, est, b1, b2⟩ ⟨t, x, y, rfl, nt, rfl, hx, hy⟩
      cases hx
      obtain ⟨o, rfl, ho⟩ := int_at hy
      rw [List.length_map] at hi3
      have hom := List.mem_of_getElem? ho
      obtain ⟨o0, o1⟩ := hi o hom
      refine ⟨t, _, rfl, SqT.of upd_same, rfl, _, _, rfl, _, _, rfl, rfl, ?_⟩
      refine to_new nt fun H5 s5 ht => ?_
      have s05 : Same H H5 := (f3.back s02 nS).trans s5
      obtain ⟨u, hu, c, rfl, hcH⟩ := hR.at o0 o1
      have hc := s05.seq hcH
      have hrow := rowLen o hom
      generalize hrw : R.getD o.toNat [] = row at *
      refine ⟨_, rfl, _, rfl, a, cs, o, _, rfl, rfl, s05.seq ha, hu, c, rfl, ⟨_, hc⟩, ?_⟩
      have f5 : Fra [l, d] H2 H5 := f3.trans (Fra.of s5)
      refine for_list (K := K) (a := c) (xs := row.map V.int) (fun j σ H' => ∃ (st' : List Int × List (Int × Int)) (x6 : Option V), σ = [some (.ref a), some (.ref b), some (.ref l), some (.ref d), some (.int (i : Nat)), some (.int o), x6] ∧
        Fra [l, d] H5 H' ∧ H' l = some (.lst (st'.1.map V.int)) ∧ H' d = some (.dK (toK st'.2)) ∧ st' = lbRow st (i : Nat) (row.take j) ∧ st'.1.length ≤ 3 * i + j ∧ st'.2.length ≤ 3 * i + j) ?_ ?_ ?_ ?_
      · exact ⟨st, _, rfl, Fra.refl _ _, s5 _ _ hl3, s5 _ _ hd3, rfl, b1, b2⟩
      · rintro j σ G _ ⟨st', y6, rfl, g, _⟩
        exact ((f5.trans g).back s02 nS).seq hcH
      · rintro j v σ G hv ⟨st', y6, rfl, g, gl, gd, est', c1, c2⟩
        obtain ⟨s, rfl, hs⟩ := int_at hv
        have hj : j < row.length := (List.getElem?_eq_some_iff.mp hs).1
        have fin : lbStep (i : Nat) st' s = lbRow st (i : Nat) (row.take (j + 1)) := by
          unfold lbRow
          rw [foldl_take _ _ _ _ _ hs, est']; rfl
        obtain ⟨e1, e2⟩ := lbStep_len (i : Nat) st' s
        have gp : ∀ G', Fra [l, d] G G' → G' l = some (.lst ((lbStep (i : Nat) st' s).1.map V.int)) → G' d = some (.dK (toK (putC st'.2 s (i : Nat)))) → ∃ (st'' : List Int × List (Int × Int)) (x6 : Option V), [some (V.ref a), some (.ref b), some (.ref l), some (.ref d), some (.int (i : Nat)), some (.int o), some (.int s)] = [some (.ref a), some (.ref b), some (.ref l), some (.ref d), some (.int (i : Nat)), some (.int o), x6] ∧
            Fra [l, d] H5 G' ∧ G' l = some (.lst (st''.1.map V.int)) ∧ G' d = some (.dK (toK st''.2)) ∧ st'' = lbRow st (i : Nat) (row.take (j + 1)) ∧ st''.1.length ≤ 3 * i + (j + 1) ∧ st''.2.length ≤ 3 * i + (j + 1) := fun G' f g1 g2 =>
          ⟨lbStep (i : Nat) st' s, _, rfl, g.trans f, g1, g2, fin, by omega, by omega⟩
        have md : ∀ x ∈ [d], x ∈ [l, d] := fun x hx => by simp at hx; simp [hx]
        have ml : ∀ x ∈ [l], x ∈ [l, d] := fun x hx => by simp at hx; simp [hx]
        refine ⟨_, rfl, _, rfl, d, _, rfl, DGet.k (k := Sum.inl s) gd, _, rfl, ?_⟩
        rw [valV_toK]
        cases hg : getC st'.2 s with
        | none =>
          refine iteF ⟨_, rfl, _, rfl, _, rfl, d, _, rfl, DPut.k (k := Sum.inl s) gd (by rw [toK_len]; exact lt_line (by omega)), ?_⟩
          rw [putK_toK]
          refine to_put fun G1 f1 gd1 => ?_
          refine gp G1 (f1.mono md) ?_ gd1
          have e : (lbStep (i : Nat) st' s).1 = st'.1 := by unfold lbStep; rw [hg]
          rw [e]
          exact f1.one nld gl
        | some x =>
          refine iteT ⟨_, rfl, .inl ⟨rfl, _, SqL.of gl⟩, _, rfl, _, rfl, _, rfl, d, _, rfl, getC_get gd hg, _, _, rfl, rfl, _, _, rfl, rfl, l, _, _, rfl, rfl, gl, lt_line (by rw [List.length_map]; omega), ?_⟩
          refine to_put fun G1 f1 gl1 => ?_
          refine ⟨_, rfl, _, rfl, _, rfl, d, _, rfl, DPut.k (k := Sum.inl s) (f1.one nld.symm gd) (by rw [toK_len]; exact lt_line (by omega)), ?_⟩
          rw [putK_toK]
          refine to_put fun G2 f2 gd2 => ?_
          refine gp G2 ((f1.mono ml).trans (f2.mono md)) ?_ gd2
          have e : (lbStep (i : Nat) st' s).1 = st'.1 ++ [(i : Nat) - x - 1] := by unfold lbStep; rw [hg]
          rw [e, snoc_ints]
          exact f2.one nld gl1
      · rintro σ G ⟨st', y6, rfl, g, gl, gd, est', c1, c2⟩
        rw [List.length_map] at est' c1 c2
        rw [List.take_length] at est'
        refine ⟨st', _, _, _, rfl, f5.trans g, gl, gd, ?_, by omega, by omega⟩
        have e : pick R (os.take (i + 1)) = pick R (os.take i) ++ [row] := by
          unfold pick
          obtain ⟨hlt, eo⟩ := List.getElem?_eq_some_iff.mp ho
          rw [List.take_succ_eq_append_getElem hlt, List.map_append, eo, ← hrw]; rfl
        rw [e, lb_snoc, ← est, est']
        congr 1
        unfold pick
        rw [List.length_map, List.length_take]
        omega
    · rintro σ H3 ⟨st, x4, x5, x6, rfl, f3, hl3, hd3, est, b1, b2⟩
      rw [List.length_map, List.take_length] at est
      rw [List.length_map] at b1
      have s03 := f3.back s02 nS
      have qq := q
      unfold least at q
      rw [← est] at q
      refine ⟨_, rfl, Nat.zero_le _, fun z nz => ?_⟩
      refine to_new nz fun H4 s4 hz => ?_
      refine ⟨_, _, dp_ints (SqL.of (s4 _ _ hl3)), .lst (SqL.of hz) .nil, (shp_ints _).ok, shp_nil.ok, _, rfl, ?_⟩
      rw [eqv_nil]
      cases hst : st.1 with
      | nil =>
        rw [hst] at q
        exact iteF (q _ (s03.trans s4))
      | cons n r =>
        rw [hst] at q hl3
        refine iteT ⟨_, rfl, l, _, rfl, SqL.of (s4 _ _ hl3), by simp, fun m hm hmm => ?_⟩
        rw [minO_eq hm hmm] at q
        exact q _ (s03.trans s4)
end
end Song

/-! ### Gw2: least_gap; all_orders; widest_few (k08) -/
namespace Song
open PySem L2
theorem perm_sorted_eq : ∀ {xs ys : List Int}, xs.Perm ys → xs.Pairwise (· ≤ ·) → ys.Pairwise (· ≤ ·) → xs = ys
  | [], ys, p, _, _ => (List.nil_perm.mp p).symm ▸ rfl
  | x :: l, [], p, _, _ => absurd p.length_eq (by simp)
  | x :: l, y :: m, p, h1, h2 => by
    obtain ⟨a1, a2⟩ := List.pairwise_cons.mp h1
    obtain ⟨b1, b2⟩ := List.pairwise_cons.mp h2
    have e : x = y := by
      have hx : x ∈ y :: m := p.subset (by simp)
      have hy : y ∈ x :: l := p.symm.subset (by simp)
      rcases List.mem_cons.mp hx with q | q
      · exact q
      rcases List.mem_cons.mp hy with q' | q'
      · exact q'.symm
      have := b1 x q
      have := a1 y q'
      omega
    subst e
    rw [perm_sorted_eq (List.perm_cons x |>.mp p) a2 b2]
theorem upto_sorted (n : Nat) : (upto n).Pairwise (· ≤ ·) := by
  unfold upto
  rw [List.pairwise_map]
  exact List.pairwise_lt_range.imp fun {a b} h => by omega
theorem rg0 (n : Nat) : rgV 0 (n : Int) = (upto n).map V.int := by
  unfold rgV upto
  rw [List.map_map, show ((n : Int) - 0).toNat = n by omega]
  refine List.map_congr_left fun i _ => ?_
  show V.int (0 + (i : Nat)) = V.int (i : Nat)
  rw [Int.zero_add]
theorem upto_len (n : Nat) : (upto n).length = n := by unfold upto; rw [List.length_map, List.length_range]
theorem upto_in (n : Nat) : InB n (upto n) := fun s hs => by
  obtain ⟨i, hi, rfl⟩ := List.mem_map.mp hs
  rw [List.mem_range] at hi
  omega
theorem perm_in {n : Nat} {os : List Int} (p : os.Perm (upto n)) : InB n os := fun s hs => upto_in n s (p.subset hs)
theorem pick_upto (R : List (List Int)) : pick R (upto R.length) = R := by
  unfold pick upto
  rw [List.map_map]
  refine List.ext_getElem (by rw [List.length_map, List.length_range]) fun i h1 h2 => ?_
  rw [List.getElem_map, List.getElem_range]
  show R.getD i [] = R[i]
  rw [List.getD_eq_getElem?_getD, List.getElem?_eq_getElem h2]; rfl
theorem pick_perm {R : List (List Int)} {os : List Int} (p : os.Perm (upto R.length)) : (pick R os).Perm R := by
  have h := p.map fun o : Int => R.getD o.toNat []
  have e : (upto R.length).map (fun o : Int => R.getD o.toNat []) = R := pick_upto R
  rw [e] at h
  exact h
theorem optV_non (o : Option Int) : decide (optV o = .non) = decide (o = none) := by
  cases o with
  | none => rfl
  | some n => rfl
section
variable {P : Program} {w : World} {K : PySem.W.Frag} {mg : Str → Option Value} {base : Heap}
end
end Song

/-! ### Gp3: songs of one singer each: counts, who bars, an order (plain) -/
namespace Song
theorem sub_len : ∀ {xs ys : List Int}, xs.Nodup → (∀ x ∈ xs, x ∈ ys) → xs.length ≤ ys.length
  | [], _, _, _ => Nat.zero_le _
  | x :: xs, ys, nd, h => by
    obtain ⟨n1, n2⟩ := List.nodup_cons.mp nd
    have hx := h x (by simp)
    have ih := sub_len (xs := xs) (ys := ys.erase x) n2 fun z hz => (List.mem_erase_of_ne (fun e : z = x => n1 (by rw [← e]; exact hz))).mpr (h z (by simp [hz]))
    have h1 := List.length_erase_of_mem hx
    have h2 := List.length_pos_of_mem hx
    rw [List.length_cons]; omega
theorem upto_succ (n : Nat) : upto (n + 1) = upto n ++ [(n : Int)] := by
  unfold upto
  rw [List.range_succ, List.map_append]; rfl
theorem mem_upto {n : Nat} {x : Int} : x ∈ upto n ↔ 0 ≤ x ∧ x < n := by
  unfold upto
  rw [List.mem_map]
  constructor
  · rintro ⟨i, hi, rfl⟩
    rw [List.mem_range] at hi
    omega
  · rintro ⟨h0, h1⟩
    exact ⟨x.toNat, List.mem_range.mpr (by omega), by omega⟩
theorem perm_of : ∀ {n : Nat} {xs : List Int}, xs.Nodup → InB n xs → xs.length = n → xs.Perm (upto n)
  | 0, xs, _, _, hl => by
    rw [List.eq_nil_of_length_eq_zero hl]; exact List.Perm.refl _
  | n + 1, xs, nd, hi, hl => by
    have hm : (n : Int) ∈ xs := by
      refine Classical.byContradiction fun h => ?_
      have := sub_len (ys := upto n) nd fun x hx => by
        have h1 := hi x hx
        have h2 : x ≠ (n : Int) := fun e => h (e ▸ hx)
        exact mem_upto.mpr (by omega)
      rw [upto_len] at this
      omega
    have ih := perm_of (n := n) (nd.erase (n : Int)) (fun x hx => by
      have h1 := hi x (List.mem_of_mem_erase hx)
      have h2 : x ≠ (n : Int) := fun e => by rw [e] at hx; exact nd.not_mem_erase hx
      omega) (by rw [List.length_erase_of_mem hm, hl]; rfl)
    rw [upto_succ]
    exact (List.perm_cons_erase hm).trans ((ih.cons _).trans (List.perm_append_singleton _ _).symm)
/-! #### counts -/
def countsOf (songs : List Int) : List (Int × Int) := songs.foldl (fun c s => putC c s ((getC c s).getD 0 + 1)) []
theorem countsOf_snoc (songs : List Int) (s : Int) : countsOf (songs ++ [s]) = putC (countsOf songs) s ((getC (countsOf songs) s).getD 0 + 1) := by
  unfold countsOf
  rw [List.foldl_append]; rfl
theorem counts_get (songs : List Int) (s : Int) : getC (countsOf songs) s = if s ∈ songs then some (songs.count s : Int) else none := by
  refine snoc_ind (P := fun songs => getC (countsOf songs) s = if s ∈ songs then some (songs.count s : Int) else none) rfl (fun l a ih => ?_) songs
  rw [countsOf_snoc, getC_putC, List.count_append]
  by_cases e : s = a
  · subst e
    have m : s ∈ l ++ [s] := List.mem_append.mpr (.inr (List.mem_singleton.mpr rfl))
    rw [if_pos rfl, ih, if_pos m]
    by_cases c : s ∈ l
    · rw [if_pos c]
      show some ((l.count s : Int) + 1) = _
      rw [List.count_singleton_self]; rfl
    · rw [if_neg c, List.count_eq_zero_of_not_mem c, List.count_singleton_self]; rfl
  · rw [if_neg e, ih]
    have e2 : [a].count s = 0 := List.count_eq_zero_of_not_mem (by simpa using e)
    rw [e2, Nat.add_zero]
    by_cases c : s ∈ l
    · rw [if_pos c, if_pos (by simp [c])]
    · rw [if_neg c, if_neg (by simp [c, e])]
theorem counts_getD (songs : List Int) (s : Int) : (getC (countsOf songs) s).getD 0 = (songs.count s : Int) := by
  rw [counts_get]
  by_cases c : s ∈ songs
  · rw [if_pos c]; rfl
  · rw [if_neg c, List.count_eq_zero_of_not_mem c]; rfl
def keysC (c : List (Int × Int)) : List Int := c.map (·.1)
theorem keys_put (c : List (Int × Int)) (k v : Int) : keysC (putC c k v) = if k ∈ keysC c then keysC c else keysC c ++ [k] := by
  unfold putC keysC
  have e : (c.any fun p => decide (p.1 = k)) = true ↔ k ∈ c.map (·.1) := by
    rw [List.any_eq_true, List.mem_map]
    constructor
    · rintro ⟨p, hp, h⟩; exact ⟨p, hp, of_decide_eq_true h⟩
    · rintro ⟨p, hp, h⟩; exact ⟨p, hp, decide_eq_true h⟩
  by_cases h : k ∈ c.map (·.1)
  · rw [if_pos (e.mpr h), if_pos h, List.map_map]
    refine List.map_congr_left fun p _ => ?_
    show (if p.1 = k then (p.1, v) else p).1 = p.1
    split <;> rfl
  · rw [if_neg (fun z => h (e.mp z)), if_neg h, List.map_append]; rfl
theorem keys_counts (songs : List Int) : (keysC (countsOf songs)).Nodup ∧ ∀ s, s ∈ keysC (countsOf songs) ↔ s ∈ songs := by
  refine snoc_ind (P := fun songs => (keysC (countsOf songs)).Nodup ∧ ∀ s, s ∈ keysC (countsOf songs) ↔ s ∈ songs) ⟨List.nodup_nil, fun s => Iff.rfl⟩ (fun l a ih => ?_) songs
  rw [countsOf_snoc, keys_put]
  obtain ⟨i1, i2⟩ := ih
  by_cases h : a ∈ keysC (countsOf l)
  · rw [if_pos h]
    refine ⟨i1, fun s => ?_⟩
    rw [i2, List.mem_append, List.mem_singleton]
    exact ⟨.inl, fun z => z.elim id fun e => by rw [e]; exact (i2 a).mp h⟩
  · rw [if_neg h]
    refine ⟨List.nodup_append.mpr ⟨i1, by simp, fun x hx y hy e => h (by rw [List.mem_singleton.mp hy] at e; rw [← e]; exact hx)⟩, fun s => ?_⟩
    rw [List.mem_append, List.mem_append, i2]
/-- the singers of songs, rising -/
def sng (songs : List Int) : List Int := (upto 6).filter fun s => decide (s ∈ songs)
def SgOk (songs : List Int) : Prop := ∀ s ∈ songs, 0 ≤ s ∧ s < 6
theorem mem_sng {songs : List Int} (h : SgOk songs) {s : Int} : s ∈ sng songs ↔ s ∈ songs := by
  unfold sng
  rw [List.mem_filter, decide_eq_true_eq, mem_upto]
  exact ⟨fun z => z.2, fun z => ⟨h s z, z⟩⟩
theorem upto_lt (n : Nat) : (upto n).Pairwise (· < ·) := by
  unfold upto
  rw [List.pairwise_map]
  exact List.pairwise_lt_range.imp fun {a b} h => by omega
theorem sng_lt (songs : List Int) : (sng songs).Pairwise (· < ·) := (upto_lt 6).filter _
theorem sng_of {songs ys : List Int} (h : SgOk songs) (p : ys.Perm (keysC (countsOf songs))) (pw : ys.Pairwise (· ≤ ·)) : ys = sng songs := by
  obtain ⟨k1, k2⟩ := keys_counts songs
  have nd : ys.Nodup := p.nodup_iff.mpr k1
  have lt : ys.Pairwise (· < ·) := by
    have := pw.and nd
    exact this.imp fun {a b} z => by have := z.1; have := z.2; omega
  exact pw_ext lt (sng_lt songs) fun z => by rw [p.mem_iff, k2, mem_sng h]
/-! #### who bars -/
def whole (songs : List Int) (gap : Int) : Int := (songs.length : Int) / (gap + 1)
def rest (songs : List Int) (gap : Int) : Int := (songs.length : Int) % (gap + 1)
def most (songs : List Int) (gap : Int) : Int := whole songs gap + if rest songs gap > 0 then 1 else 0
def barsP (songs : List Int) (gap : Int) (ss : List Int) : Bool :=
  if ss = [] ∨ rising ss = false then false else if ss.length = 1 ∧ (songs.count (ss.headD 0) : Int) > most songs gap then true
  else decide (0 < rest songs gap ∧ rest songs gap < (ss.length : Int)) && ss.all fun s => decide ((songs.count s : Int) > whole songs gap)
def full (songs : List Int) (gap : Int) : List Int := (sng songs).filter fun s => decide ((songs.count s : Int) > whole songs gap)
def few (songs : List Int) (gap : Int) : List Int := (sng songs).filter fun s => decide ((songs.count s : Int) ≤ whole songs gap)
def barring (songs : List Int) (gap : Int) : Option (List Int) := match (sng songs).find? fun s => barsP songs gap [s] with
  | some s => some [s]
  | none => if barsP songs gap (full songs gap) = true then some (full songs gap) else none
theorem barring_bars {songs : List Int} {gap : Int} {ss : List Int} (h : barring songs gap = some ss) : barsP songs gap ss = true := by
  unfold barring at h
  cases e : (sng songs).find? fun s => barsP songs gap [s] with
  | some s =>
    rw [e] at h
    rw [← Option.some.inj h]
    exact List.find?_some (p := fun s => barsP songs gap [s]) e
  | none =>
    rw [e] at h
    dsimp only at h
    split at h
    · rw [← Option.some.inj h]; assumption
    · cases h
theorem bars_one (songs : List Int) (gap : Int) (s : Int) (h : (songs.count s : Int) > most songs gap) : barsP songs gap [s] = true := by
  unfold barsP
  rw [if_neg (by simp [rising]), if_pos ⟨rfl, h⟩]
theorem barring_none {songs : List Int} {gap : Int} (hg : 0 ≤ gap) (hs : SgOk songs) (h : barring songs gap = none) : (∀ s ∈ songs, (songs.count s : Int) ≤ most songs gap) ∧ ((full songs gap).length : Int) ≤ rest songs gap := by
  unfold barring at h
  have hr0 : 0 ≤ rest songs gap := Int.emod_nonneg _ (by omega)
  cases e : (sng songs).find? fun s => barsP songs gap [s] with
  | some s => rw [e] at h; cases h
  | none =>
    rw [e] at h
    dsimp only at h
    have h1 : ∀ s ∈ songs, (songs.count s : Int) ≤ most songs gap := fun s hs2 => by
      refine Classical.byContradiction fun z => ?_
      have := List.find?_eq_none.mp e s ((mem_sng hs).mpr hs2)
      exact this (bars_one songs gap s (by omega))
    refine ⟨h1, ?_⟩
    by_cases hb : barsP songs gap (full songs gap) = true
    · rw [if_pos hb] at h; cases h
    refine Classical.byContradiction fun z => hb ?_
    have hne : full songs gap ≠ [] := fun e => by rw [e] at z; simp at z; omega
    have hri : rising (full songs gap) = true := rising_of ((sng_lt songs).filter _)
    have hall : ((full songs gap).all fun s => decide ((songs.count s : Int) > whole songs gap)) = true := List.all_eq_true.mpr fun s hs => (List.mem_filter.mp hs).2
    have hr : 0 < rest songs gap := by
      refine Classical.byContradiction fun z2 => ?_
      obtain ⟨s, hs2⟩ := List.exists_mem_of_ne_nil _ hne
      obtain ⟨m1, m2⟩ := List.mem_filter.mp hs2
      have a1 := h1 s ((mem_sng hs).mp m1)
      have a2 := of_decide_eq_true m2
      unfold most at a1
      rw [if_neg (by omega)] at a1
      omega
    unfold barsP
    rw [if_neg (by rw [hri]; simp [hne])]
    split
    · rfl
    · rw [hall, decide_eq_true ⟨hr, by omega⟩]; rfl
end Song

/-! ### Gp4: an order that keeps a gap (plain) -/
namespace Song
/-! #### turns by what they leave by a width -/
def cls (n w c : Nat) : List Int := (List.range ((n - c - 1) / w + 1)).map fun i : Nat => ((c + i * w : Nat) : Int)
def Tn (n w : Nat) : Nat → List Int
  | 0 => []
  | c + 1 => cls n w c ++ Tn n w c
theorem cls_len (n w c : Nat) : (cls n w c).length = (n - c - 1) / w + 1 := by unfold cls; rw [List.length_map, List.length_range]
theorem cls_get {n w c i : Nat} (h : i < (cls n w c).length) : (cls n w c)[i]? = some ((c + i * w : Nat) : Int) := by
  rw [cls_len] at h
  unfold cls
  rw [List.getElem?_map, List.getElem?_range h]; rfl
theorem cls_size {n w c : Nat} (hw : 0 < w) (h1 : c < w) (h2 : c < n) : (cls n w c).length = if c < n % w then n / w + 1 else n / w := by
  rw [cls_len]
  have e := Nat.div_add_mod n w
  have hr := Nat.mod_lt n hw
  generalize n / w = q at *
  generalize n % w = r at *
  by_cases hc : c < r
  · rw [if_pos hc, show n - c - 1 = w * q + (r - c - 1) by omega, Nat.mul_add_div hw, Nat.div_eq_of_lt (by omega)]
  · rw [if_neg hc]
    cases q with
    | zero => rw [Nat.mul_zero] at e; omega
    | succ q =>
      rw [Nat.mul_succ] at e
      rw [show n - c - 1 = w * q + (w + r - c - 1) by omega, Nat.mul_add_div hw, Nat.div_eq_of_lt (by omega)]
theorem Tn_get0 {n w c j : Nat} (h : j < (cls n w c).length) : (Tn n w (c + 1))[j]? = some ((c + j * w : Nat) : Int) := by
  show (cls n w c ++ _)[j]? = _
  rw [List.getElem?_append_left h, cls_get h]
theorem far_same {c k k' w : Nat} (h : k < k') : (w : Int) ≤ ((c + k' * w : Nat) : Int) - ((c + k * w : Nat) : Int) := by
  obtain ⟨d, rfl⟩ : ∃ d, k' = k + 1 + d := ⟨k' - k - 1, by omega⟩
  rw [Nat.add_mul, Nat.add_mul, Nat.one_mul]
  generalize k * w = a
  generalize d * w = b
  omega
/-- near in the turn, far in place -/
theorem Tn_far {n w : Nat} (hw : 0 < w) : ∀ c, c ≤ w → c ≤ n → ∀ (k k' : Nat) (x y : Int), k < k' → k' - k < n / w → (Tn n w c)[k]? = some x → (Tn n w c)[k']? = some y → (w : Int) ≤ x - y ∨ (w : Int) ≤ y - x
  | 0, _, _ => fun k k' x y _ _ hx _ => by cases hx
  | c + 1, h1, h2 => fun k k' x y hk hq hx hy => by
    have ih := Tn_far (n := n) hw c (by omega) (by omega)
    have sz := cls_size (n := n) hw (show c < w by omega) (show c < n by omega)
    have szq : n / w ≤ (cls n w c).length := by rw [sz]; generalize n / w = q; split <;> omega
    have ex : Tn n w (c + 1) = cls n w c ++ Tn n w c := rfl
    by_cases a : k' < (cls n w c).length
    · rw [Tn_get0 a] at hy
      rw [Tn_get0 (by omega)] at hx
      rw [← Option.some.inj hx, ← Option.some.inj hy]
      exact .inr (far_same hk)
    · by_cases b : k < (cls n w c).length
      · rw [Tn_get0 b] at hx
        rw [ex, List.getElem?_append_right (by omega)] at hy
        cases c with
        | zero => cases hy
        | succ c =>
          have sz2 := cls_size (n := n) hw (show c < w by omega) (show c < n by omega)
          have le2 : (cls n w (c + 1)).length ≤ (cls n w c).length := by
            rw [sz, sz2]
            split <;> split <;> omega
          generalize hj : k' - (cls n w (c + 1)).length = j at *
          have hji : j < k := by omega
          rw [Tn_get0 (show j < (cls n w c).length by omega)] at hy
          rw [← Option.some.inj hx, ← Option.some.inj hy]
          have := far_same (c := c) (w := w) hji
          exact .inl (by omega)
      · rw [ex, List.getElem?_append_right (by omega)] at hx hy
        exact ih (k - (cls n w c).length) (k' - (cls n w c).length) x y (by omega) (by omega) hx hy
theorem Tn_split {n w : Nat} : ∀ c f, f ≤ c → ∃ A, Tn n w c = A ++ Tn n w f
  | 0, f, h => ⟨[], by rw [show f = 0 by omega]; rfl⟩
  | c + 1, f, h => by
    by_cases e : f = c + 1
    · exact ⟨[], by rw [e]; rfl⟩
    · obtain ⟨A, hA⟩ := Tn_split (n := n) (w := w) c f (by omega)
      exact ⟨cls n w c ++ A, by show cls n w c ++ Tn n w c = _; rw [hA, List.append_assoc]⟩
theorem Tn_len {n w : Nat} (hw : 0 < w) : ∀ c, c ≤ w → c ≤ n → (Tn n w c).length = c * (n / w) + min c (n % w)
  | 0, _, _ => by simp [Tn]
  | c + 1, h1, h2 => by
    show (cls n w c ++ Tn n w c).length = _
    rw [List.length_append, Tn_len hw c (by omega) (by omega), cls_size hw (by omega) (by omega), Nat.add_mul, Nat.one_mul]
    generalize c * (n / w) = a
    split <;> omega
theorem mem_cls {n w c : Nat} {x : Int} (hw : 0 < w) (hc : c < n) : x ∈ cls n w c → ∃ i : Nat, x = ((c + i * w : Nat) : Int) ∧ c + i * w < n := fun h => by
  obtain ⟨i, hi, rfl⟩ := List.mem_map.mp h
  rw [List.mem_range] at hi
  refine ⟨i, rfl, ?_⟩
  have h1 : i ≤ (n - c - 1) / w := by omega
  have h2 := Nat.mul_le_mul_right w h1
  have h3 := Nat.div_mul_le_self (n - c - 1) w
  omega
theorem mem_Tn {n w : Nat} (hw : 0 < w) {x : Int} : ∀ c, c ≤ w → c ≤ n → x ∈ Tn n w c → ∃ a i : Nat, a < c ∧ x = ((a + i * w : Nat) : Int) ∧ a + i * w < n
  | 0, _, _ => fun h => by cases h
  | c + 1, h1, h2 => fun h => by
    rcases List.mem_append.mp h with h | h
    · obtain ⟨i, e, l⟩ := mem_cls hw (by omega) h
      exact ⟨c, i, by omega, e, l⟩
    · obtain ⟨a, i, h3, h4⟩ := mem_Tn hw c (by omega) (by omega) h
      exact ⟨a, i, by omega, h4⟩
theorem Tn_nodup {n w : Nat} (hw : 0 < w) : ∀ c, c ≤ w → c ≤ n → (Tn n w c).Nodup
  | 0, _, _ => List.nodup_nil
  | c + 1, h1, h2 => by
    refine List.nodup_append.mpr ⟨?_, Tn_nodup hw c (by omega) (by omega), fun x hx y hy e => ?_⟩
    · unfold cls
      refine List.pairwise_map.mpr (List.pairwise_lt_range.imp fun {a b} h => ?_)
      have := far_same (c := c) (w := w) h
      omega
    · obtain ⟨i, e1, _⟩ := mem_cls hw (by omega) hx
      obtain ⟨a, j, ha, e2, _⟩ := mem_Tn hw c (by omega) (by omega) hy
      have e3 : c + i * w = a + j * w := by omega
      have m1 : (c + i * w) % w = c := by rw [Nat.add_mul_mod_self_right, Nat.mod_eq_of_lt (by omega)]
      have m2 : (a + j * w) % w = a := by rw [Nat.add_mul_mod_self_right, Nat.mod_eq_of_lt (by omega)]
      rw [e3] at m1
      omega
def turnsIn (n w : Nat) : List Int := Tn n w (min w n)
theorem turns_len {n w : Nat} (hw : 0 < w) : (turnsIn n w).length = n := by
  unfold turnsIn
  rw [Tn_len hw _ (Nat.min_le_left _ _) (Nat.min_le_right _ _)]
  have e := Nat.div_add_mod n w
  have hr := Nat.mod_lt n hw
  by_cases h : w ≤ n
  · rw [Nat.min_eq_left h]
    generalize n / w = q at *
    omega
  · have h0 : n / w = 0 := Nat.div_eq_of_lt (by omega)
    rw [h0] at e ⊢
    omega
theorem turns_perm {n w : Nat} (hw : 0 < w) : (turnsIn n w).Perm (upto n) := by
  refine perm_of (Tn_nodup hw _ (Nat.min_le_left _ _) (Nat.min_le_right _ _)) (fun x hx => ?_) (turns_len hw)
  obtain ⟨a, i, _, e, l⟩ := mem_Tn hw _ (Nat.min_le_left _ _) (Nat.min_le_right _ _) hx
  omega
/-! #### blocks of alike ones -/
def blocks (cnt : Int → Nat) (ss : List Int) : List Int := ss.flatMap fun s => List.replicate (cnt s) s
theorem mem_blocks {cnt : Int → Nat} {ss : List Int} {x : Int} (h : x ∈ blocks cnt ss) : x ∈ ss := by
  obtain ⟨s, hs, hx⟩ := List.mem_flatMap.mp h
  rw [(List.mem_replicate.mp hx).2]; exact hs
theorem blocks_near {cnt : Int → Nat} : ∀ {ss : List Int}, ss.Nodup → ∀ (k k' : Nat) (s : Int), k < k' → (blocks cnt ss)[k]? = some s → (blocks cnt ss)[k']? = some s → k' - k < cnt s
  | [], _ => fun k k' s _ h _ => by cases h
  | a :: ss, nd => fun k k' s hk h1 h2 => by
    obtain ⟨n1, n2⟩ := List.nodup_cons.mp nd
    have e : blocks cnt (a :: ss) = List.replicate (cnt a) a ++ blocks cnt ss := rfl
    have la : (List.replicate (cnt a) a).length = cnt a := List.length_replicate
    rw [e] at h1 h2
    by_cases b : k < cnt a
    · rw [List.getElem?_append_left (by omega), List.getElem?_replicate, if_pos b] at h1
      have es : a = s := Option.some.inj h1
      subst es
      by_cases b2 : k' < cnt a
      · omega
      · rw [List.getElem?_append_right (by omega)] at h2
        exact absurd (mem_blocks (List.mem_of_getElem? h2)) n1
    · rw [List.getElem?_append_right (by omega), la] at h1
      rw [List.getElem?_append_right (by omega), la] at h2
      have := blocks_near n2 (k - cnt a) (k' - cnt a) s (by omega) h1 h2
      omega
theorem blocks_full {n w : Nat} {cnt : Int → Nat} (hw : 0 < w) : ∀ {ss : List Int}, ss.Nodup → ss.length ≤ n % w → (∀ s ∈ ss, cnt s = n / w + 1) →
    (blocks cnt ss).length = ss.length * (n / w + 1) ∧ ∀ (k k' : Nat) (s x y : Int), k < k' → (blocks cnt ss)[k]? = some s → (blocks cnt ss)[k']? = some s → (Tn n w ss.length)[k]? = some x → (Tn n w ss.length)[k']? = some y → (w : Int) ≤ y - x
  | [], _, _, _ => ⟨by simp [blocks], fun k k' s x y _ h _ _ _ => by cases h⟩
  | a :: ss, nd, hl, hc => by
    obtain ⟨n1, n2⟩ := List.nodup_cons.mp nd
    rw [List.length_cons] at hl
    obtain ⟨i1, i2⟩ := blocks_full hw n2 (by omega) fun s hs => hc s (by simp [hs])
    have e : blocks cnt (a :: ss) = List.replicate (cnt a) a ++ blocks cnt ss := rfl
    have la : (List.replicate (cnt a) a).length = n / w + 1 := by rw [List.length_replicate, hc a (by simp)]
    have hr := Nat.mod_lt n hw
    have hrn := Nat.mod_le n w
    have sz := cls_size (n := n) hw (show ss.length < w by omega) (show ss.length < n by omega)
    rw [if_pos (by omega)] at sz
    have eT : Tn n w (a :: ss).length = cls n w ss.length ++ Tn n w ss.length := rfl
    refine ⟨by rw [e, List.length_append, la, i1, List.length_cons, Nat.add_mul, Nat.one_mul]; omega, fun k k' s x y hk h1 h2 hx hy => ?_⟩
    rw [e] at h1 h2
    rw [eT] at hx hy
    by_cases b : k < n / w + 1
    · rw [List.getElem?_append_left (by omega)] at h1
      have es : s = a := (List.mem_replicate.mp (List.mem_of_getElem? h1)).2
      subst es
      by_cases b2 : k' < n / w + 1
      · rw [List.getElem?_append_left (by omega), cls_get (by omega)] at hx hy
        rw [← Option.some.inj hx, ← Option.some.inj hy]
        exact far_same hk
      · rw [List.getElem?_append_right (by omega)] at h2
        exact absurd (mem_blocks (List.mem_of_getElem? h2)) n1
    · rw [List.getElem?_append_right (by omega), la] at h1 h2
      rw [List.getElem?_append_right (by omega), sz] at hx hy
      exact i2 _ _ s x y (by omega) h1 h2 hx hy
end Song

/-! ### Gp5: the order that is told; who bars has none (plain) -/
namespace Song
def atS (songs : List Int) (o : Int) : Int := songs.getD o.toNat 0
def singles (songs : List Int) : List (List Int) := songs.map fun s => [s]
theorem singles_len (songs : List Int) : (singles songs).length = songs.length := List.length_map _
theorem singles_getD {songs : List Int} {i : Nat} (h : i < songs.length) : (singles songs).getD i [] = [songs.getD i 0] := by
  unfold singles
  rw [List.getD_eq_getElem?_getD, List.getElem?_map, List.getElem?_eq_getElem h, List.getD_eq_getElem?_getD, List.getElem?_eq_getElem h]; rfl
theorem mem_places {songs : List Int} {s x : Int} : x ∈ spots s (singles songs) ↔ ∃ i : Nat, i < songs.length ∧ songs.getD i 0 = s ∧ x = i := by
  rw [spots_mem, singles_len]
  constructor
  · rintro ⟨i, hi, hm, e⟩
    rw [singles_getD hi, List.mem_singleton] at hm
    exact ⟨i, hi, hm.symm, e⟩
  · rintro ⟨i, hi, hm, e⟩
    exact ⟨i, hi, by rw [singles_getD hi, hm]; simp, e⟩
theorem places_len (songs : List Int) (s : Int) : (spots s (singles songs)).length = songs.count s := by
  rw [spots_len]
  unfold singles
  rw [List.countP_map, List.count_eq_countP]
  congr 1
  funext x
  show decide (s ∈ [x]) = (x == s)
  by_cases e : x = s
  · subst e
    rw [decide_eq_true (List.mem_singleton.mpr rfl)]
    exact (beq_self_eq_true x).symm
  · rw [decide_eq_false (fun z => e (List.mem_singleton.mp z).symm)]
    exact (beq_eq_false_iff_ne.mpr e).symm
theorem places_map (songs : List Int) (s : Int) : (spots s (singles songs)).map (atS songs) = List.replicate (songs.count s) s := by
  rw [List.eq_replicate_iff]
  refine ⟨by rw [List.length_map, places_len], fun b hb => ?_⟩
  obtain ⟨x, hx, rfl⟩ := List.mem_map.mp hb
  obtain ⟨i, hi, e, rfl⟩ := mem_places.mp hx
  exact e
def placesOf (songs ss : List Int) : List Int := ss.flatMap fun s => spots s (singles songs)
theorem placesOf_map (songs : List Int) : ∀ ss : List Int, (placesOf songs ss).map (atS songs) = blocks (fun s => songs.count s) ss
  | [] => rfl
  | s :: ss => by
    have e : placesOf songs (s :: ss) = spots s (singles songs) ++ placesOf songs ss := rfl
    have e2 : blocks (fun s => songs.count s) (s :: ss) = List.replicate (songs.count s) s ++ blocks (fun s => songs.count s) ss := rfl
    rw [e, e2, List.map_append, places_map, placesOf_map songs ss]
theorem placesOf_in {songs ss : List Int} : InB songs.length (placesOf songs ss) := fun x hx => by
  obtain ⟨s, _, h⟩ := List.mem_flatMap.mp hx
  obtain ⟨i, hi, _, rfl⟩ := mem_places.mp h
  omega
theorem placesOf_nodup {songs : List Int} : ∀ {ss : List Int}, ss.Nodup → (placesOf songs ss).Nodup
  | [], _ => List.nodup_nil
  | s :: ss, nd => by
    obtain ⟨n1, n2⟩ := List.nodup_cons.mp nd
    refine List.nodup_append.mpr ⟨(spots_sorted _ _).imp fun {a b} h => by omega, placesOf_nodup n2, fun x hx y hy e => ?_⟩
    obtain ⟨i, hi, e1, rfl⟩ := mem_places.mp hx
    obtain ⟨s', hs', h⟩ := List.mem_flatMap.mp hy
    obtain ⟨j, hj, e2, rfl⟩ := mem_places.mp h
    have : i = j := by omega
    subst this
    rw [e1] at e2
    subst e2
    exact n1 hs'
theorem placesOf_perm {songs ss : List Int} (nd : ss.Nodup) (h : ∀ s ∈ songs, s ∈ ss) : (placesOf songs ss).Perm (upto songs.length) := by
  refine perm_of (placesOf_nodup nd) placesOf_in (Nat.le_antisymm (nodup_len placesOf_in (placesOf_nodup nd)) ?_)
  have := sub_len (xs := upto songs.length) (ys := placesOf songs ss) ((upto_lt _).imp fun {a b} h => by omega) fun x hx => by
    obtain ⟨h0, h1⟩ := mem_upto.mp hx
    have hi : x.toNat < songs.length := by omega
    refine List.mem_flatMap.mpr ⟨songs.getD x.toNat 0, h _ ?_, mem_places.mpr ⟨x.toNat, hi, rfl, by omega⟩⟩
    rw [List.getD_eq_getElem?_getD, List.getElem?_eq_getElem hi]
    exact List.getElem_mem hi
  rwa [upto_len] at this
/-! #### laying by turns -/
def setAt (l : List Int) (pt : Int × Int) : List Int := l.set pt.2.toNat pt.1
theorem setAts_len : ∀ (zs : List (Int × Int)) (l : List Int), (zs.foldl setAt l).length = l.length
  | [], _ => rfl
  | z :: zs, l => by
    show (zs.foldl setAt (setAt l z)).length = _
    rw [setAts_len zs]
    exact List.length_set
theorem setAts_other {j : Nat} : ∀ (zs : List (Int × Int)) (l : List Int), (∀ z ∈ zs, z.2.toNat ≠ j) → (zs.foldl setAt l)[j]? = l[j]?
  | [], _, _ => rfl
  | z :: zs, l, h => by
    show (zs.foldl setAt (setAt l z))[j]? = _
    rw [setAts_other zs _ fun z' hz => h z' (by simp [hz])]
    exact List.getElem?_set_ne (h z (by simp))
theorem setAts_get : ∀ (zs : List (Int × Int)) (l : List Int), (zs.map fun z => z.2.toNat).Nodup → (∀ z ∈ zs, z.2.toNat < l.length) → ∀ z ∈ zs, (zs.foldl setAt l)[z.2.toNat]? = some z.1
  | [], _, _, _, _, h => by cases h
  | z :: zs, l, nd, hi, z', h => by
    rw [List.map_cons] at nd
    obtain ⟨n1, n2⟩ := List.nodup_cons.mp nd
    show (zs.foldl setAt (setAt l z))[z'.2.toNat]? = _
    rcases List.mem_cons.mp h with e | e
    · subst e
      rw [setAts_other zs _ fun y hy e => n1 (List.mem_map.mpr ⟨y, hy, e⟩)]
      exact List.getElem?_set_self (hi z' (by simp))
    · exact setAts_get zs _ n2 (fun y hy => by show _ < (List.set _ _ _).length; rw [List.length_set]; exact hi y (by simp [hy])) z' e
def orderFor (songs : List Int) (gap : Int) : List Int := ((placesOf songs (few songs gap ++ full songs gap)).zip (turnsIn songs.length (gap.toNat + 1))).foldl setAt (List.replicate songs.length 0)
/-- between two songs of one singer are always more than gap turns -/
def Spc (songs os : List Int) (gap : Int) : Prop := ∀ (i j : Nat) (x y : Int), i < j → os[i]? = some x → os[j]? = some y → atS songs x = atS songs y → gap < (j : Int) - i
theorem filter_split (songs : List Int) (gap : Int) : (few songs gap ++ full songs gap).Nodup ∧ ∀ s, s ∈ few songs gap ++ full songs gap ↔ s ∈ sng songs := by
  have nd : (sng songs).Nodup := (sng_lt songs).imp fun {a b} h => by omega
  refine ⟨List.nodup_append.mpr ⟨nd.filter _, nd.filter _, fun x hx y hy e => ?_⟩, fun s => ?_⟩
  · subst e
    have h1 := of_decide_eq_true (List.mem_filter.mp hx).2
    have h2 := of_decide_eq_true (List.mem_filter.mp hy).2
    omega
  · rw [List.mem_append]
    constructor
    · rintro (h | h) <;> exact (List.mem_filter.mp h).1
    · intro h
      by_cases c : (songs.count s : Int) ≤ whole songs gap
      · exact .inl (List.mem_filter.mpr ⟨h, decide_eq_true c⟩)
      · exact .inr (List.mem_filter.mpr ⟨h, decide_eq_true (by omega)⟩)
theorem order_ok {songs : List Int} {gap : Int} (hg : 0 ≤ gap) (hs : SgOk songs) (hb : barring songs gap = none) : (orderFor songs gap).Perm (upto songs.length) ∧ Spc songs (orderFor songs gap) gap := by
  obtain ⟨b1, b2⟩ := barring_none hg hs hb
  obtain ⟨f1, f2⟩ := filter_split songs gap
  have pP : (placesOf songs (few songs gap ++ full songs gap)).Perm (upto songs.length) := placesOf_perm f1 fun s h => (f2 s).mpr ((mem_sng hs).mpr h)
  have hw : 0 < gap.toNat + 1 := by omega
  have hgw : gap + 1 = ((gap.toNat + 1 : Nat) : Int) := by omega
  have hgw2 : gap < ((gap.toNat + 1 : Nat) : Int) := by omega
  unfold rest at b2
  have ewh : whole songs gap = ((songs.length / (gap.toNat + 1) : Nat) : Int) := by unfold whole; rw [hgw]; rfl
  have bm : ∀ s ∈ songs, (songs.count s : Int) ≤ (songs.length / (gap.toNat + 1) : Nat) + 1 := fun s h => by
    have := b1 s h
    unfold most at this
    rw [ewh] at this
    split at this <;> omega
  rw [hgw, ← Int.natCast_emod] at b2
  have ePm : (placesOf songs (few songs gap ++ full songs gap)).map (atS songs) = blocks (fun s => songs.count s) (few songs gap) ++ blocks (fun s => songs.count s) (full songs gap) := by
    rw [placesOf_map]
    exact List.flatMap_append
  have eo : orderFor songs gap = ((placesOf songs (few songs gap ++ full songs gap)).zip (turnsIn songs.length (gap.toNat + 1))).foldl setAt (List.replicate songs.length 0) := rfl
  have pT := turns_perm (n := songs.length) hw
  have lT := turns_len (n := songs.length) hw
  generalize hP : placesOf songs (few songs gap ++ full songs gap) = P at *
  generalize hT : turnsIn songs.length (gap.toNat + 1) = T at *
  have lP : P.length = songs.length := by rw [pP.length_eq, upto_len]
  have iT : InB songs.length T := perm_in pT
  have ndT : T.Nodup := pT.nodup_iff.mpr ((upto_lt _).imp fun {a b} h => by omega)
  have ndP : P.Nodup := pP.nodup_iff.mpr ((upto_lt _).imp fun {a b} h => by omega)
  have lo : (orderFor songs gap).length = songs.length := by rw [eo, setAts_len, List.length_replicate]
  have og : ∀ (k : Nat) (t p : Int), T[k]? = some t → P[k]? = some p → (orderFor songs gap)[t.toNat]? = some p := fun k t p h1 h2 => by
    rw [eo]
    refine setAts_get (P.zip T) _ ?_ (fun z hz => ?_) (p, t) (List.mem_of_getElem? (i := k) (by rw [List.getElem?_zip_eq_some]; exact ⟨h2, h1⟩))
    · have e : (P.zip T).map (fun z => z.2.toNat) = T.map Int.toNat := by
        rw [show (fun z : Int × Int => z.2.toNat) = Int.toNat ∘ Prod.snd from rfl, ← List.map_map, List.map_snd_zip (by omega)]
      rw [e]
      refine List.pairwise_map.mpr ?_
      refine List.Pairwise.imp_of_mem (fun {a b} ha hb h => ?_) ndT
      have := iT a ha
      have := iT b hb
      omega
    · rw [List.length_replicate]
      have := iT z.2 (List.of_mem_zip hz).2
      omega
  -- every place has its turn
  have back : ∀ (i : Nat) (x : Int), (orderFor songs gap)[i]? = some x → ∃ k, T[k]? = some (i : Int) ∧ P[k]? = some x := fun i x h => by
    have hi : i < songs.length := by rw [← lo]; exact (List.getElem?_eq_some_iff.mp h).1
    have hm : (i : Int) ∈ T := pT.symm.subset (mem_upto.mpr (by omega))
    obtain ⟨k, hk, e⟩ := List.mem_iff_getElem.mp hm
    have hk2 : k < P.length := by omega
    have h1 : T[k]? = some (i : Int) := by rw [List.getElem?_eq_getElem hk, e]
    have h2 := og k i P[k] h1 (List.getElem?_eq_getElem hk2)
    rw [show ((i : Int)).toNat = i by omega, h] at h2
    exact ⟨k, h1, by rw [h2]; exact List.getElem?_eq_getElem hk2⟩
  have inj : ∀ {l : List Int} {a b : Nat} {x : Int}, l.Nodup → l[a]? = some x → l[b]? = some x → a = b := fun {l a b x} nd h1 h2 => by
    obtain ⟨ha, e1⟩ := List.getElem?_eq_some_iff.mp h1
    obtain ⟨hb, e2⟩ := List.getElem?_eq_some_iff.mp h2
    have pw := List.pairwise_iff_getElem.mp nd
    refine Classical.byContradiction fun ne => ?_
    rcases Nat.lt_or_gt_of_ne ne with h | h
    · exact pw a b ha hb h (by rw [e1, e2])
    · exact pw b a hb ha h (by rw [e1, e2])
  refine ⟨perm_of ?_ (fun x hx => ?_) lo, ?_⟩
  · refine List.pairwise_iff_getElem.mpr fun a b ha hb hab e => ?_
    obtain ⟨k, h1, h2⟩ := back a _ (List.getElem?_eq_getElem ha)
    obtain ⟨k', h3, h4⟩ := back b _ (List.getElem?_eq_getElem hb)
    rw [e] at h2
    have := inj ndP h2 h4
    subst this
    rw [h1] at h3
    have := Option.some.inj h3
    omega
  · obtain ⟨i, hi, e⟩ := List.mem_iff_getElem.mp hx
    obtain ⟨k, h1, h2⟩ := back i _ (List.getElem?_eq_getElem hi)
    rw [e] at h2
    have := perm_in pP x (List.mem_of_getElem? h2)
    exact this
  · intro i j x y hij hx hy hxy
    obtain ⟨k, t1, p1⟩ := back i x hx
    obtain ⟨k', t2, p2⟩ := back j y hy
    have X1 : (P.map (atS songs))[k]? = some (atS songs x) := by rw [List.getElem?_map, p1]; rfl
    have X2 : (P.map (atS songs))[k']? = some (atS songs x) := by rw [List.getElem?_map, p2, hxy]; rfl
    have nk : k ≠ k' := fun e => by
      subst e
      rw [t1] at t2
      have := Option.some.inj t2
      omega
    generalize atS songs x = s at *
    have fl : ∀ s ∈ full songs gap, songs.count s = songs.length / (gap.toNat + 1) + 1 := fun s h => by
      obtain ⟨m1, m2⟩ := List.mem_filter.mp h
      have a1 := of_decide_eq_true m2
      have a2 := bm s ((mem_sng hs).mp m1)
      rw [ewh] at a1
      omega
    have fw : ∀ s ∈ few songs gap, songs.count s ≤ songs.length / (gap.toNat + 1) := fun s h => by
      have a1 := of_decide_eq_true (List.mem_filter.mp h).2
      rw [ewh] at a1
      omega
    have ndF : (few songs gap).Nodup := (List.nodup_append.mp f1).1
    have ndL : (full songs gap).Nodup := (List.nodup_append.mp f1).2.1
    have dj := (List.nodup_append.mp f1).2.2
    obtain ⟨bl, bf⟩ := blocks_full (n := songs.length) (cnt := fun s => songs.count s) hw ndL (by omega) fl
    have key : ∀ (a b : Nat) (ta tb : Int), a < b → (P.map (atS songs))[a]? = some s → (P.map (atS songs))[b]? = some s → T[a]? = some ta → T[b]? = some tb → ((gap.toNat + 1 : Nat) : Int) ≤ ta - tb ∨ ((gap.toNat + 1 : Nat) : Int) ≤ tb - ta := fun a b ta tb hab ha hb hta htb => by
      rw [ePm] at ha hb
      have m1 := Nat.min_le_left (gap.toNat + 1) songs.length
      have m2 := Nat.min_le_right (gap.toNat + 1) songs.length
      have eT : T = Tn songs.length (gap.toNat + 1) (min (gap.toNat + 1) songs.length) := hT.symm
      by_cases cb : b < (blocks (fun s => songs.count s) (few songs gap)).length
      · rw [List.getElem?_append_left (by omega)] at ha hb
        have nr := blocks_near ndF a b s hab ha hb
        have := fw s (mem_blocks (List.mem_of_getElem? hb))
        rw [eT] at hta htb
        exact Tn_far hw _ m1 m2 a b ta tb hab (Nat.lt_of_lt_of_le nr this) hta htb
      · rw [List.getElem?_append_right (by omega)] at hb
        by_cases ca : a < (blocks (fun s => songs.count s) (few songs gap)).length
        · rw [List.getElem?_append_left ca] at ha
          exact absurd rfl (dj s (mem_blocks (List.mem_of_getElem? ha)) s (mem_blocks (List.mem_of_getElem? hb)))
        · rw [List.getElem?_append_right (by omega)] at ha
          have hf : (full songs gap).length ≤ min (gap.toNat + 1) songs.length := by
            have h1 := Nat.mod_lt songs.length hw
            have h2 := Nat.mod_le songs.length (gap.toNat + 1)
            generalize songs.length % (gap.toNat + 1) = r at *
            omega
          obtain ⟨A, hA⟩ := Tn_split (n := songs.length) (w := gap.toNat + 1) (min (gap.toNat + 1) songs.length) (full songs gap).length hf
          have lX : (blocks (fun s => songs.count s) (few songs gap)).length + (blocks (fun s => songs.count s) (full songs gap)).length = songs.length := by
            rw [← List.length_append, ← ePm, List.length_map, lP]
          have lTf := Tn_len (n := songs.length) hw (full songs gap).length (Nat.le_trans hf m1) (Nat.le_trans hf m2)
          have lA : A.length = (blocks (fun s => songs.count s) (few songs gap)).length := by
            have e : (A ++ Tn songs.length (gap.toNat + 1) (full songs gap).length).length = songs.length := by rw [← hA, ← eT, lT]
            rw [List.length_append, lTf] at e
            rw [bl, Nat.mul_add, Nat.mul_one] at lX
            have : min (full songs gap).length (songs.length % (gap.toNat + 1)) = (full songs gap).length := Nat.min_eq_left (by omega)
            omega
          rw [eT, hA, List.getElem?_append_right (by omega), lA] at hta htb
          exact .inr (bf _ _ s ta tb (by omega) ha hb hta htb)
    have fin : ((gap.toNat + 1 : Nat) : Int) ≤ (i : Int) - j ∨ ((gap.toNat + 1 : Nat) : Int) ≤ (j : Int) - i := by
      rcases Nat.lt_or_gt_of_ne nk with h | h
      · exact key k k' i j h X1 X2 t1 t2
      · exact (key k' k j i h X2 X1 t2 t1).symm
    omega
end Song

/-! ### Gp6: keeping a gap, told two ways; who bars has no order; widest (plain) -/
namespace Song
def Apart (X : List Int) (w : Nat) : Prop := ∀ (i j : Nat) (s : Int), i < j → X[i]? = some s → X[j]? = some s → w ≤ j - i
theorem Apart.drop {X : List Int} {w : Nat} (h : Apart X w) (m : Nat) : Apart (X.drop m) w := fun i j s hij h1 h2 => by
  rw [List.getElem?_drop] at h1 h2
  have := h _ _ s (show m + i < m + j by omega) h1 h2
  omega
theorem Apart.take {X : List Int} {w : Nat} (h : Apart X w) (m : Nat) : Apart (X.take m) w := fun i j s hij h1 h2 => by
  have l := (List.getElem?_eq_some_iff.mp h2).1
  rw [List.length_take] at l
  rw [List.getElem?_take_of_lt (by omega)] at h1 h2
  exact h _ _ s hij h1 h2
theorem Apart.one {X : List Int} {w : Nat} (h : Apart X w) (hl : X.length ≤ w) (s : Int) : X.count s ≤ 1 := by
  have nd : X.Nodup := List.pairwise_iff_getElem.mpr fun i j hi hj hij e => by
    have := h i j X[i] hij (List.getElem?_eq_getElem hi) (by rw [e]; exact List.getElem?_eq_getElem hj)
    omega
  exact List.nodup_iff_count.mp nd s
theorem Apart.many {w : Nat} {s : Int} : ∀ {q : Nat} {X : List Int}, Apart X w → X.length = q * w → X.count s ≤ q
  | 0, X, _, hl => by
    rw [Nat.zero_mul] at hl
    rw [List.eq_nil_of_length_eq_zero hl]; simp
  | q + 1, X, h, hl => by
    rw [Nat.add_mul, Nat.one_mul] at hl
    have h1 := (h.take w).one (by rw [List.length_take]; omega) s
    have h2 := Apart.many (s := s) (q := q) (h.drop w) (by rw [List.length_drop]; omega)
    rw [← List.take_append_drop w X, List.count_append]
    omega
theorem map_upto (songs : List Int) : (upto songs.length).map (atS songs) = songs := by
  refine List.ext_getElem (by rw [List.length_map, upto_len]) fun i h1 h2 => ?_
  rw [List.getElem_map]
  unfold upto
  rw [List.getElem_map, List.getElem_range]
  show songs.getD i 0 = _
  rw [List.getD_eq_getElem?_getD, List.getElem?_eq_getElem h2]; rfl
theorem bars_no {songs : List Int} {gap : Int} {ss os : List Int} (hg : 0 ≤ gap) (hb : barsP songs gap ss = true) (p : os.Perm (upto songs.length)) : ¬ Spc songs os gap := fun hS => by
  have pX : (os.map (atS songs)).Perm songs := by
    have := p.map (atS songs)
    rwa [map_upto] at this
  have ap : Apart (os.map (atS songs)) (gap.toNat + 1) := fun i j s hij h1 h2 => by
    rw [List.getElem?_map] at h1 h2
    cases e1 : os[i]? with
    | none => rw [e1] at h1; cases h1
    | some x =>
      cases e2 : os[j]? with
      | none => rw [e2] at h2; cases h2
      | some y =>
        rw [e1] at h1
        rw [e2] at h2
        have := hS i j x y hij e1 e2 ((Option.some.inj h1).trans (Option.some.inj h2).symm)
        omega
  have hw : 0 < gap.toNat + 1 := by omega
  have hgw : gap + 1 = ((gap.toNat + 1 : Nat) : Int) := by omega
  have ewh : whole songs gap = ((songs.length / (gap.toNat + 1) : Nat) : Int) := by unfold whole; rw [hgw]; rfl
  have ers : rest songs gap = ((songs.length % (gap.toNat + 1) : Nat) : Int) := by unfold rest; rw [hgw]; rfl
  generalize hX : os.map (atS songs) = X at *
  have lX : X.length = songs.length := pX.length_eq
  have dm := Nat.div_add_mod songs.length (gap.toNat + 1)
  have rl := Nat.mod_lt songs.length hw
  generalize hr : songs.length % (gap.toNat + 1) = r at *
  generalize hq : songs.length / (gap.toNat + 1) = q at *
  have c2 : ∀ s, (X.drop r).count s ≤ q := fun s => (ap.drop r).many (by rw [List.length_drop, Nat.mul_comm]; omega)
  have cs : ∀ s, songs.count s = (X.take r).count s + (X.drop r).count s := fun s => by
    rw [← List.count_append, List.take_append_drop]
    exact (pX.count_eq s).symm
  unfold barsP at hb
  by_cases h1 : ss = [] ∨ rising ss = false
  · rw [if_pos h1] at hb; cases hb
  rw [if_neg h1] at hb
  by_cases h2 : ss.length = 1 ∧ (songs.count (ss.headD 0) : Int) > most songs gap
  · have a := h2.2
    unfold most at a
    rw [ewh, ers] at a
    have b := cs (ss.headD 0)
    have c := c2 (ss.headD 0)
    by_cases hr0 : r = 0
    · subst hr0
      rw [if_neg (by omega)] at a
      rw [List.take_zero, List.count_nil] at b
      omega
    · rw [if_pos (by omega)] at a
      have d := (ap.take r).one (by rw [List.length_take]; omega) (ss.headD 0)
      omega
  · rw [if_neg h2, Bool.and_eq_true] at hb
    obtain ⟨g1, g2⟩ := hb
    obtain ⟨g3, g4⟩ := of_decide_eq_true g1
    rw [ers] at g3 g4
    have hri : rising ss = true := by
      cases e : rising ss with
      | true => rfl
      | false => exact absurd (.inr e) h1
    have := sub_len (xs := ss) (ys := X.take r) ((pw_of hri).imp fun {a b} h => by omega) fun s hs => by
      have a := of_decide_eq_true (List.all_eq_true.mp g2 s hs)
      rw [ewh] at a
      have b := cs s
      have c := c2 s
      exact List.count_pos_iff.mp (by omega)
    rw [List.length_take] at this
    omega
/-! #### keeping, by the least gap -/
def keepsP (songs os : List Int) (gap : Int) : Bool := match least (pick (singles songs) os) with
  | none => true
  | some m => decide (m ≥ gap)
theorem diffs_pw {gap : Int} (hg : 0 ≤ gap) : ∀ {l : List Int}, (∀ x ∈ diffs l, gap ≤ x) ↔ l.Pairwise fun a b => gap < b - a
  | [] => ⟨fun _ => .nil, fun _ x h => by cases h⟩
  | [a] => ⟨fun _ => List.pairwise_singleton _ _, fun _ x h => by cases h⟩
  | a :: b :: r => by
    have ih := diffs_pw hg (l := b :: r)
    have e : diffs (a :: b :: r) = (b - a - 1) :: diffs (b :: r) := rfl
    rw [e]
    constructor
    · intro h
      have h1 := h (b - a - 1) (by simp)
      have h2 := ih.mp fun x hx => h x (by simp [hx])
      refine List.pairwise_cons.mpr ⟨fun y hy => ?_, h2⟩
      rcases List.mem_cons.mp hy with q | q
      · rw [q]; omega
      · have := (List.pairwise_cons.mp h2).1 y q
        omega
    · intro h x hx
      obtain ⟨p1, p2⟩ := List.pairwise_cons.mp h
      rcases List.mem_cons.mp hx with q | q
      · have := p1 b (by simp)
        omega
      · exact ih.mpr p2 x q
theorem pick_nodup (songs os : List Int) : ∀ r ∈ pick (singles songs) os, r.Nodup := fun r hr => by
  obtain ⟨o, _, rfl⟩ := List.mem_map.mp hr
  show ((singles songs).getD o.toNat []).Nodup
  rw [List.getD_eq_getElem?_getD]
  unfold singles
  rw [List.getElem?_map]
  cases songs[o.toNat]? with
  | none => exact List.nodup_nil
  | some s => simp
theorem pick_at {songs os : List Int} (hi : InB songs.length os) {i : Nat} {s : Int} : s ∈ (pick (singles songs) os).getD i [] ↔ ∃ x, os[i]? = some x ∧ atS songs x = s := by
  unfold pick
  rw [List.getD_eq_getElem?_getD, List.getElem?_map]
  cases e : os[i]? with
  | none => simp
  | some x =>
    have hx := hi x (List.mem_of_getElem? e)
    show s ∈ (singles songs).getD x.toNat [] ↔ _
    rw [singles_getD (by omega), List.mem_singleton]
    constructor
    · intro h; exact ⟨x, rfl, h.symm⟩
    · rintro ⟨y, hy, h⟩
      rw [← Option.some.inj hy] at h
      exact h.symm
theorem keeps_iff {songs os : List Int} {gap : Int} (hg : 0 ≤ gap) (hi : InB songs.length os) : keepsP songs os gap = true ↔ Spc songs os gap := by
  have h2 := (lb_spec (pick (singles songs) os) (pick_nodup songs os)).2
  have e1 : keepsP songs os gap = true ↔ ∀ x ∈ (lb (pick (singles songs) os)).1, gap ≤ x := by
    unfold keepsP least
    cases e : minO (lb (pick (singles songs) os)).1 with
    | none =>
      rw [minO_none] at e
      rw [e]
      exact ⟨fun _ x hx => (nomatch hx), fun _ => rfl⟩
    | some m =>
      obtain ⟨m1, m2⟩ := minO_some e
      show decide (m ≥ gap) = true ↔ _
      rw [decide_eq_true_eq]
      exact ⟨fun h x hx => Int.le_trans h (m2 x hx), fun h => h m m1⟩
  have lp : (pick (singles songs) os).length = os.length := List.length_map _
  rw [e1]
  constructor
  · intro h i j x y hij hx hy hxy
    have pw := (diffs_pw hg (l := spots (atS songs x) (pick (singles songs) os))).mp fun d hd => h d ((h2 d).mpr ⟨_, hd⟩)
    have mi : (i : Int) ∈ spots (atS songs x) (pick (singles songs) os) := spots_mem.mpr ⟨i, by rw [lp]; exact (List.getElem?_eq_some_iff.mp hx).1, (pick_at hi).mpr ⟨x, hx, rfl⟩, rfl⟩
    have mj : (j : Int) ∈ spots (atS songs x) (pick (singles songs) os) := spots_mem.mpr ⟨j, by rw [lp]; exact (List.getElem?_eq_some_iff.mp hy).1, (pick_at hi).mpr ⟨y, hy, hxy.symm⟩, rfl⟩
    have srt := spots_sorted (atS songs x) (pick (singles songs) os)
    obtain ⟨a, ha, ea⟩ := List.mem_iff_getElem.mp mi
    obtain ⟨b, hb, eb⟩ := List.mem_iff_getElem.mp mj
    have hab : a < b := by
      rcases Nat.lt_trichotomy a b with z | z | z
      · exact z
      · subst z; rw [ea] at eb; omega
      · have := List.pairwise_iff_getElem.mp srt b a hb ha z
        rw [ea, eb] at this
        omega
    have := List.pairwise_iff_getElem.mp pw a b ha hb hab
    rw [ea, eb] at this
    exact this
  · intro hS x hx
    obtain ⟨s, hs⟩ := (h2 x).mp hx
    refine (diffs_pw hg (l := spots s (pick (singles songs) os))).mpr ?_ x hs
    refine List.Pairwise.imp_of_mem (fun {a b} ha hb h => ?_) (spots_sorted s _)
    obtain ⟨i, hi1, hi2, rfl⟩ := spots_mem.mp ha
    obtain ⟨j, hj1, hj2, rfl⟩ := spots_mem.mp hb
    obtain ⟨x1, e1, e2⟩ := (pick_at hi).mp hi2
    obtain ⟨y1, e3, e4⟩ := (pick_at hi).mp hj2
    exact hS i j x1 y1 (by omega) e1 e3 (by rw [e2, e4])
/-! #### widest -/
def twice (songs : List Int) : Bool := songs.any fun s => decide (songs.count s > 1)
def wid (songs : List Int) : Nat → Int → Int
  | 0, g => g
  | f + 1, g => if barring songs (g + 1) = none then wid songs f (g + 1) else g
def widest (songs : List Int) : Option Int := if twice songs = true then some (wid songs songs.length 0) else none
theorem barring_zero {songs : List Int} (hs : SgOk songs) : barring songs 0 = none := by
  cases e : barring songs 0 with
  | none => rfl
  | some ss =>
    have hb := barring_bars e
    exact absurd (fun i j x y hij _ _ _ => by omega) (bars_no (Int.le_refl 0) hb (List.Perm.refl (upto songs.length)))
theorem barring_far {songs : List Int} {gap : Int} (hs : SgOk songs) (h : twice songs = true) (hg : (songs.length : Int) ≤ gap) : barring songs gap ≠ none := fun e => by
  obtain ⟨b1, _⟩ := barring_none (by omega) hs e
  obtain ⟨s, m, c⟩ := List.any_eq_true.mp h
  have c := of_decide_eq_true c
  have a := b1 s m
  unfold most whole at a
  rw [Int.ediv_eq_zero_of_lt (by omega) (by omega)] at a
  split at a <;> omega
theorem wid_spec {songs : List Int} (hs : SgOk songs) (h : twice songs = true) : ∀ (f : Nat) (g : Int), 0 ≤ g → (songs.length : Int) ≤ g + f → (∀ k, 0 ≤ k → k ≤ g → barring songs k = none) →
    g ≤ wid songs f g ∧ (∀ k, 0 ≤ k → k ≤ wid songs f g → barring songs k = none) ∧ barring songs (wid songs f g + 1) ≠ none ∧ wid songs f g ≤ g + f
  | 0, g, h0, hl, hk => ⟨Int.le_refl _, hk, barring_far hs h (show (songs.length : Int) ≤ g + 1 by omega), by show g ≤ g + _; omega⟩
  | f + 1, g, h0, hl, hk => by
    unfold wid
    by_cases c : barring songs (g + 1) = none
    · rw [if_pos c]
      obtain ⟨i1, i2, i3, i4⟩ := wid_spec hs h f (g + 1) (by omega) (by omega) fun k k0 k1 => by
        by_cases e : k = g + 1
        · rw [e]; exact c
        · exact hk k k0 (by omega)
      exact ⟨by omega, i2, i3, by omega⟩
    · rw [if_neg c]
      exact ⟨Int.le_refl _, hk, c, by omega⟩
theorem widest_spec {songs : List Int} (hs : SgOk songs) {g : Int} (h : widest songs = some g) : 0 ≤ g ∧ g ≤ songs.length ∧ barring songs g = none ∧ barring songs (g + 1) ≠ none := by
  unfold widest at h
  by_cases t : twice songs = true
  · rw [if_pos t] at h
    have h := Option.some.inj h
    obtain ⟨a, b, c, d⟩ := wid_spec hs t songs.length 0 (Int.le_refl _) (by omega) fun k k0 k1 => by
      rw [show k = 0 by omega]; exact barring_zero hs
    rw [h] at a b c d
    exact ⟨a, by omega, b g a (Int.le_refl _), c⟩
  · rw [if_neg t] at h; cases h
end Song

/-! ### Ca5: whether a row of places can be gone on with (plain; k05) -/
namespace Song
def canP (songs : List Int) (gap : Int) : Nat → List Int → Bool
  | 0, row => decide (row.length = songs.length)
  | r + 1, row => if row.length = songs.length then true else (upto songs.length).any fun p => decide (p ∉ row) && (keepsP songs (row ++ [p]) gap && canP songs gap r (row ++ [p]))
theorem spc_snoc {songs row : List Int} {gap : Int} {p : Int} (h : Spc songs (row ++ [p]) gap) : Spc songs row gap := fun i j x y hij hx hy hxy => by
  have lx := (List.getElem?_eq_some_iff.mp hx).1
  have ly := (List.getElem?_eq_some_iff.mp hy).1
  exact h i j x y hij (by rw [List.getElem?_append_left lx]; exact hx) (by rw [List.getElem?_append_left ly]; exact hy) hxy
theorem canP_sound {songs : List Int} {gap : Int} (hg : 0 ≤ gap) : ∀ (r : Nat) (row : List Int), row.Nodup → InB songs.length row → Spc songs row gap → canP songs gap r row = true → ∃ os, os.Perm (upto songs.length) ∧ Spc songs os gap
  | 0, row, nd, hi, hS, h => ⟨row, perm_of nd hi (of_decide_eq_true h), hS⟩
  | r + 1, row, nd, hi, hS, h => by
    unfold canP at h
    by_cases c : row.length = songs.length
    · exact ⟨row, perm_of nd hi c, hS⟩
    · rw [if_neg c] at h
      obtain ⟨p, hp, h⟩ := List.any_eq_true.mp h
      rw [Bool.and_eq_true, Bool.and_eq_true] at h
      obtain ⟨h1, h2, h3⟩ := h
      have h1 := of_decide_eq_true h1
      have hi2 : InB songs.length (row ++ [p]) := fun x hx => by
        rcases List.mem_append.mp hx with z | z
        · exact hi x z
        · rw [List.mem_singleton.mp z]; exact mem_upto.mp hp
      refine canP_sound hg r (row ++ [p]) (List.nodup_append.mpr ⟨nd, by simp, fun a ha b hb e => h1 ?_⟩) hi2 ((keeps_iff hg hi2).mp h2) h3
      rw [← List.mem_singleton.mp hb, ← e]; exact ha
theorem spc_take {songs os : List Int} {gap : Int} (h : Spc songs os gap) (k : Nat) : Spc songs (os.take k) gap := fun i j x y hij hx hy hxy => by
  have lj := (List.getElem?_eq_some_iff.mp hy).1
  rw [List.length_take] at lj
  rw [List.getElem?_take_of_lt (by omega)] at hx hy
  exact h i j x y hij hx hy hxy
theorem canP_of {songs os : List Int} {gap : Int} (hg : 0 ≤ gap) (pm : os.Perm (upto songs.length)) (hS : Spc songs os gap) : ∀ (r k : Nat), k + r = songs.length → canP songs gap r (os.take k) = true
  | 0, k, e => decide_eq_true (by rw [List.length_take, pm.length_eq, upto_len]; omega)
  | r + 1, k, e => by
    have ol : os.length = songs.length := by rw [pm.length_eq, upto_len]
    have hk : k < os.length := by omega
    unfold canP
    rw [if_neg (by rw [List.length_take]; omega)]
    refine List.any_eq_true.mpr ⟨os[k], pm.subset (List.getElem_mem hk), ?_⟩
    have e2 : os.take k ++ [os[k]] = os.take (k + 1) := (List.take_succ_eq_append_getElem hk).symm
    rw [e2]
    have nd : os.Nodup := pm.nodup_iff.mpr ((upto_lt _).imp fun {a b} h => by omega)
    have n1 : os[k] ∉ os.take k := fun z => by
      obtain ⟨i, hi, e3⟩ := List.mem_iff_getElem.mp z
      rw [List.length_take] at hi
      rw [List.getElem_take] at e3
      exact List.pairwise_iff_getElem.mp nd i k (by omega) hk (by omega) e3
    have hi2 : InB songs.length (os.take (k + 1)) := fun x hx => perm_in pm x (List.mem_of_mem_take hx)
    rw [decide_eq_true n1, (keeps_iff hg hi2).mpr (spc_take hS _), canP_of hg pm hS r (k + 1) (by omega)]; rfl
theorem can_iff {songs : List Int} {gap : Int} (hg : 0 ≤ gap) (hs : SgOk songs) : canP songs gap songs.length [] = (barring songs gap).isNone := by
  cases e : barring songs gap with
  | none =>
    obtain ⟨pm, hS⟩ := order_ok hg hs e
    exact canP_of hg pm hS songs.length 0 (by omega)
  | some ss =>
    cases h : canP songs gap songs.length [] with
    | false => rfl
    | true =>
      obtain ⟨os, pm, hS⟩ := canP_sound hg songs.length [] List.nodup_nil (fun x hx => by cases hx) (fun i j x y _ hx => by cases hx) h
      exact absurd hS (bars_no hg (barring_bars e) pm)
theorem shows_long {songs os : List Int} {gap : Int} (h : os.Perm (upto songs.length)) : (os ++ [0]).isPerm (upto songs.length) = false := by
  cases e : (os ++ [0]).isPerm (upto songs.length) with
  | false => rfl
  | true =>
    have := (List.isPerm_iff.mp e).length_eq
    rw [List.length_append, h.length_eq] at this
    simp at this
theorem rising_end : ∀ {ss : List Int}, ss ≠ [] → (∀ s ∈ ss, 0 ≤ s) → rising (ss ++ [0]) = false
  | [], h, _ => absurd rfl h
  | [a], _, h => by
    have := h a (by simp)
    show (decide (a < 0) && true) = false
    rw [decide_eq_false (by omega)]; rfl
  | a :: b :: r, _, h => by
    have ih := rising_end (ss := b :: r) (by simp) fun s hs => h s (by simp [hs])
    show (decide (a < b) && rising (b :: r ++ [0])) = false
    rw [ih, Bool.and_false]
theorem barring_in {songs : List Int} {gap : Int} {ss : List Int} (h : barring songs gap = some ss) : ss ≠ [] ∧ ∀ s ∈ ss, 0 ≤ s := by
  have hb := barring_bars h
  refine ⟨fun z => (by rw [z] at hb; unfold barsP at hb; rw [if_pos (.inl rfl)] at hb; cases hb), ?_⟩
  have hsn : ∀ s ∈ sng songs, 0 ≤ s := fun s hs => (mem_upto.mp (List.mem_filter.mp hs).1).1
  unfold barring at h
  cases e : (sng songs).find? fun s => barsP songs gap [s] with
  | some s =>
    rw [e] at h
    rw [← Option.some.inj h]
    intro x hx
    rw [List.mem_singleton.mp hx]
    exact hsn s (List.mem_of_find?_eq_some e)
  | none =>
    rw [e] at h
    dsimp only at h
    split at h
    · rw [← Option.some.inj h]
      intro x hx
      exact hsn x (List.mem_filter.mp hx).1
    · cases h
theorem bars_long {songs : List Int} {gap : Int} {ss : List Int} (h : barring songs gap = some ss) : barsP songs gap (ss ++ [0]) = false := by
  obtain ⟨h1, h2⟩ := barring_in h
  unfold barsP
  rw [if_pos (.inr (rising_end h1 h2))]
end Song

/-! ### Gw4: counts, who bars, keeps -/
namespace Song
open PySem L2
section
variable {P : Program} {w : World} {K : PySem.W.Frag} {mg : Str → Option Value} {base : Heap}
theorem sc_counts_of : FnScope ["songs", "found", "singer"] ["songs"] (defScope s_counts_of) := ⟨rfl, rfl, rfl, by decide +kernel, rfl, by decide +kernel, by decide +kernel⟩
def sp_counts_of (K : PySem.W.Frag) : Sp := fun vs H Q _ => ∃ (a : Addr) (songs : List Int), vs = [.ref a] ∧ SqL K H a (songs.map V.int) ∧ songs.length ≤ 900 ∧ ∀ d H', H d = none → Same H H' → H' d = some (.dK (toK (countsOf songs))) → Q (.ref d) H'
theorem countsOf_len (songs : List Int) : (countsOf songs).length ≤ songs.length := by
  refine snoc_ind (P := fun songs => (countsOf songs).length ≤ songs.length) (Nat.le_refl _) (fun l a ih => ?_) songs
  rw [countsOf_snoc, List.length_append, List.length_singleton]
  have := putC_len (countsOf l) a ((getC (countsOf l) a).getD 0 + 1)
  omega
theorem getD_int (o : Option Int) : ((o.map V.int).getD (.int 0)) = V.int (o.getD 0) := by cases o <;> rfl
theorem fn_counts_of (T : Tx K mg) : Fn P w K mg base "counts_of" 1 (sp_counts_of K) := by
  obtain ⟨fd, F⟩ := T.d_counts_of
  refine ⟨_, fd, _, F.ok (CX := CX0) sc_counts_of (fun vs H Q E h => ?_) (fun cdv A outer s H vs Q E hr h => ?_), T.g_counts_of, F.kp, F.bindsN fun _ _ _ _ _ _ us hl => match us, hl with | [_], _ => rfl⟩
  · obtain ⟨a, songs, rfl, _⟩ := h; rfl
  · obtain ⟨a, songs, rfl, ha, hl, q⟩ := h
    refine ⟨_, PSs.nox (pss_cons (ps_set (i := 1) sc_counts_of.nd rfl (by first | exact Or.inl rfl | exact Or.inr rfl) pe_dnewK)
      (pss_cons (ps_for PassesOwn.never rfl (show PI _ _ _ (iList K _) from pi_list (pv 0)) (pg_name (i := 2) sc_counts_of.nd rfl (by first | exact Or.inl rfl | exact Or.inr rfl))
      (pss_one (ps_dput (hu_of hr) (pv 1) (pv 2) (pe_op op_add (pe_dget2 (hu_of hr) (pv 1) (pv 2) pe_int ⟨by rfl, by rfl, by rfl, by rfl⟩) pe_int) rfl)))
      (pss_one (ps_ret (pv 1))))), ?_⟩
    intro d nd
    refine to_new nd fun H1 s1 hd => ?_
    refine ⟨_, rfl, a, rfl, ⟨_, s1.seq ha⟩, for_list (K := K) (a := a) (xs := songs.map V.int) (fun i σ H' => ∃ x2 : Option V, σ = [some (.ref a), some (.ref d), x2] ∧ Fra [d] H1 H' ∧ H' d = some (.dK (toK (countsOf (songs.take i))))) ?_ ?_ ?_ ?_⟩
    · exact ⟨_, rfl, Fra.refl _ _, hd⟩
    · rintro i σ G _ ⟨_, _, f, _⟩
      exact (f.back s1 (fun x hx => by rw [List.mem_singleton.mp hx]; exact nd)).seq ha
    · rintro i v σ G hv ⟨x2, rfl, f, hG⟩
      obtain ⟨s, rfl, hs⟩ := int_at hv
      have hi : i < songs.length := (List.getElem?_eq_some_iff.mp hs).1
      have cl := countsOf_len (songs.take i)
      rw [List.length_take] at cl
      refine ⟨_, rfl, d, rfl, .inl ⟨_, .inl hG⟩, _, rfl, _, DGet.k (k := Sum.inl s) hG, ?_⟩
      rw [valV_toK, getD_int]
      refine ⟨_, _, rfl, rfl, _, rfl, _, rfl, d, _, rfl, DPut.k (k := Sum.inl s) hG (by rw [toK_len]; exact lt_line (by omega)), ?_⟩
      rw [putK_toK]
      refine to_put fun G1 f1 h1 => ?_
      refine ⟨_, rfl, f.trans f1, ?_⟩
      obtain ⟨hlt, e⟩ := List.getElem?_eq_some_iff.mp hs
      rw [List.take_succ_eq_append_getElem hlt, e, countsOf_snoc]
      exact h1
    · rintro σ G ⟨x2, rfl, f, hG⟩
      rw [List.length_map, List.take_length] at hG
      exact ⟨_, rfl, q d G nd (f.back s1 (fun x hx => by rw [List.mem_singleton.mp hx]; exact nd)) hG⟩
theorem counts_at {H : Hp} {d : Addr} {songs : List Int} (h : H d = some (.dK (toK (countsOf songs)))) (s : Int) : ∃ o, DGet H d (.int s) o ∧ o.getD (.int 0) = V.int (songs.count s : Int) := by
  refine ⟨_, DGet.k (k := Sum.inl s) h, ?_⟩
  rw [valV_toK, getD_int, counts_getD]
theorem counts_in {H : Hp} {d : Addr} {songs : List Int} (h : H d = some (.dK (toK (countsOf songs)))) {s : Int} (hs : s ∈ songs) : DGet H d (.int s) (some (V.int (songs.count s : Int))) :=
  getC_get h (by rw [counts_get, if_pos hs])
/-- a gap that the machine can divide by -/
def GapOk (gap : Int) : Prop := 0 ≤ gap ∧ gap < 2 ^ 100
theorem GapOk.log {gap : Int} (h : GapOk gap) : (gap + 1).natAbs.log2 < 9000 := by
  have h1 := h.2
  have h2 := h.1
  refine Nat.lt_of_lt_of_le ((Nat.log2_lt (k := 101) (by omega)).mpr ?_) (by decide)
  have : (gap + 1).natAbs ≤ 2 ^ 100 := by omega
  exact Nat.lt_of_le_of_lt this (by decide)
theorem sc_bars : FnScope ["songs", "gap", "singers", "counts", "whole", "rest", "most", "one", "other"] ["songs", "gap", "singers"] (defScope s_bars) := ⟨rfl, rfl, rfl, by decide +kernel, rfl, by decide +kernel, by decide +kernel⟩
def sp_bars (K : PySem.W.Frag) : Sp := fun vs H Q _ => ∃ (a b : Addr) (songs ss : List Int) (gap : Int), vs = [.ref a, .int gap, .ref b] ∧ SqL K H a (songs.map V.int) ∧ songs.length ≤ 900 ∧ GapOk gap ∧ SqL K H b (ss.map V.int) ∧ ss.length ≤ 900 ∧ ∀ H', Same H H' → Q (.bl (barsP songs gap ss)) H'
theorem zipGe_all : ∀ ns : List Int, ((ns.zip (ns.drop 1)).map fun p => decide (p.1 ≥ p.2)).any id = !rising ns
  | [] => rfl
  | [_] => rfl
  | a :: b :: r => by
    have ih := zipGe_all (b :: r)
    unfold rising
    simp only [List.drop_succ_cons, List.drop_zero, List.zip_cons_cons, List.map_cons, List.any_cons, id] at ih ⊢
    rw [ih, Bool.not_and]
    congr 1
    by_cases h : a < b
    · rw [decide_eq_true h, decide_eq_false (by omega)]; rfl
    · rw [decide_eq_false h, decide_eq_true (by omega)]; rfl
theorem zipGe_vals (ns : List Int) : (List.range (min (ns.map V.int).length ((ns.drop 1).map V.int).length)).filterMap (fun i => ((ns.zip (ns.drop 1))[i]?).map fun p => V.bl (decide (p.1 ≥ p.2))) = ((ns.zip (ns.drop 1)).map fun p => decide (p.1 ≥ p.2)).map V.bl := by
  have e : min (ns.map V.int).length ((ns.drop 1).map V.int).length = (ns.zip (ns.drop 1)).length := by simp
  rw [e, range_map, List.map_map]
  rfl
theorem fn_bars (T : Tx K mg) : Fn P w K mg base "bars" 2 (sp_bars K) := by
  obtain ⟨fd, F⟩ := T.d_bars
  refine ⟨_, fd, _, F.ok (CX := CX0) sc_bars (fun vs H Q E h => ?_) (fun cdv A outer s H vs Q E hr h => ?_), T.g_bars, F.kp, F.bindsN fun _ _ _ _ _ _ us hl => match us, hl with | [_, _, _], _ => rfl⟩
  · obtain ⟨a, b, songs, ss, gap, rfl, _⟩ := h; rfl
  · obtain ⟨a, b, songs, ss, gap, rfl, ha, hl, hg, hb, hsl, q⟩ := h
    refine ⟨_, PSs.nox (pss_cons (ps_asg (pe_tup (pa_cons (pe_fn (fn_counts_of T) (hr.mono (by first | decide | omega)) (by rfl) (pa_cons (pv 0) pa_nil)) (pa_cons (pe_op op_fdivW (pe_callB (show CallR _ _ (rLenQ K) from call_len_seq) (by rfl) T.len (by decide +kernel) (pa_cons (pv 0) pa_nil)) (pe_op op_add (pv 1) pe_int)) (pa_cons (pe_op op_mod (pe_callB (show CallR _ _ (rLenQ K) from call_len_seq) (by rfl) T.len (by decide +kernel) (pa_cons (pv 0) pa_nil)) (pe_op op_add (pv 1) pe_int)) pa_nil)))) (show PG _ _ (gTup K _ _) from pg_tup rfl (pgs_cons (pg_name (i := 3) sc_bars.nd rfl (by first | exact Or.inl rfl | exact Or.inr rfl)) (pgs_cons (pg_name (i := 4) sc_bars.nd rfl (by first | exact Or.inl rfl | exact Or.inr rfl)) (pgs_cons (pg_name (i := 5) sc_bars.nd rfl (by first | exact Or.inl rfl | exact Or.inr rfl)) pgs_nil)))))
      (pss_cons (ps_set (i := 6) sc_bars.nd rfl (by first | exact Or.inl rfl | exact Or.inr rfl) (pe_op op_add (pv 4) (pe_callTy call_int1 (by rfl) T.int (by decide +kernel) (pa_cons (pe_cmpR op_gt (pv 5) pe_int (nomark _)) pa_nil))))
      (pss_cons (ps_if (PW.pt (pw_or (pt_cmpR (show OpR _ _ (rEqD K) from op_eqD hr.units) (pv 2) (pe_lst pa_nil) (nomark _)) (pw_or1 (pt_val (pe_callB (show CallR _ _ (rAny K) from cr_any (by rfl)) (by rfl) T.any (by decide +kernel) (pa_cons (pe_lc (own := [("one", 7), ("other", 8)]) (g := (gTup K 2 (gCons (gName 7) (gCons (gName 8) gNil)))) (tt := tYes) (by rfl) sc_bars.nd (show PI _ _ _ (iZip K _) from pi_zip (by rfl) T.zip (pa_cons (pv 2) (pa_cons (pe_slice (show SlR _ (rSlL K) from sl_list) (pv 2) (po_some pe_int) po_none) pa_nil))) (blkOk_by (by kernel_rfl)) (fun _ _ _ _ _ => (show PG _ _ (gTup K _ _) from pg_tup rfl (pgs_cons (pg_name (i := 7) sc_bars.nd rfl (by first | exact Or.inl rfl | exact Or.inr rfl)) (pgs_cons (pg_name (i := 8) sc_bars.nd rfl (by first | exact Or.inl rfl | exact Or.inr rfl)) pgs_nil)))) (fun _ _ _ _ _ => pts_nil) (fun _ _ _ _ _ => (pe_cmpR op_ge (pv 7) (pv 8) (nomark _)))) pa_nil)))))) (pss_one (ps_ret pe_bl)) pss_nil)
      (pss_cons (ps_cut (ps_if (PW.pt (pw_and (pt_cmpR op_eq (pe_callB (show CallR _ _ (rLenQ K) from call_len_seq) (by rfl) T.len (by decide +kernel) (pa_cons (pv 2) pa_nil)) pe_int (nomark _)) (pw_and1 (pt_cmpR op_gt (pe_dget2 (hu_of hr) (pv 3) (pe_ix (show IxR _ (rIxL K) from ix_list) (pv 2) pe_int (fun _ _ => rfl)) pe_int ⟨by rfl, by rfl, by rfl, by rfl⟩) (pv 6) (nomark _))))) (pss_one (ps_ret pe_bl)) pss_nil))
      (pss_one (ps_ret (pe_and (pe_chain op_lt op_lt pe_int (pv 5) (pe_callB (show CallR _ _ (rLenQ K) from call_len_seq) (by rfl) T.len (by decide +kernel) (pa_cons (pv 2) pa_nil))) (pe_one (pe_callB (show CallR _ _ (rAll K) from cr_all (by rfl)) (by rfl) T.all (by decide +kernel) (pa_cons (pe_lc (own := [("one", 7)]) (g := (gName 7)) (tt := tYes) (by rfl) sc_bars.nd (show PI _ _ _ (iList K _) from pi_list (pv 2)) (blkOk_by (by kernel_rfl)) (fun _ _ _ _ _ => (pg_name (i := 7) sc_bars.nd rfl (by first | exact Or.inl rfl | exact Or.inr rfl))) (fun _ _ _ _ _ => pts_nil) (fun _ _ _ _ _ => (pe_cmpR op_gt (pe_dget2 (hu_of hr) (pv 3) (pv 7) pe_int ⟨by rfl, by rfl, by rfl, by rfl⟩) (pv 4) (nomark _)))) pa_nil)))))))))), ?_⟩
    have hg0 := hg.1
    refine ⟨_, rfl, a, songs, rfl, ha, hl, fun d H1 nd s1 hd => ?_⟩
    refine ⟨_, rfl, a, _, rfl, .inl (s1.seq ha), _, rfl, _, _, rfl, rfl, _, _, rfl, rfl, ⟨by omega, hg.log⟩, ?_⟩
    refine ⟨_, rfl, a, _, rfl, .inl (s1.seq ha), _, rfl, _, _, rfl, rfl, _, _, rfl, rfl, (show 0 < gap + 1 by omega), ?_⟩
    refine ⟨by show 3 ≤ sizeLine; decide, fun t nt => ?_⟩
    refine to_new nt fun H2 s2 ht => ?_
    rw [List.length_map] at ht
    refine ⟨t, _, rfl, SqT.of ht, rfl, _, _, rfl, _, _, rfl, _, _, rfl, rfl, ?_⟩
    refine ⟨_, rfl, _, rfl, _, _, rfl, rfl, .inr ⟨_, rfl, _, _, rfl, rfl, ?_⟩⟩
    have em : (songs.length : Int) / (gap + 1) + (if decide ((songs.length : Int) % (gap + 1) > 0) = true then 1 else 0) = most songs gap := by
      unfold most whole rest
      by_cases c : (songs.length : Int) % (gap + 1) > 0
      · rw [decide_eq_true c, if_pos rfl, if_pos c]
      · rw [decide_eq_false c, if_neg (by decide), if_neg c]
    have s12 := s1.trans s2
    have hb2 := s12.seq hb
    have hd2 := s2 _ _ hd
    refine ⟨_, rfl, Nat.zero_le _, fun z nz => ?_⟩
    refine to_new nz fun H3 s3 hz => ?_
    refine ⟨_, _, dp_ints (s3.seq hb2), .lst (SqL.of hz) .nil, (shp_ints _).ok, shp_nil.ok, _, rfl, ?_⟩
    rw [eqv_nil]
    have s13 := s12.trans s3
    by_cases hne : ss = []
    · have e0 : barsP songs gap ss = false := by unfold barsP; rw [if_pos (.inl hne)]
      rw [e0] at q
      rw [show ss.isEmpty = true by rw [hne]; rfl]
      exact iteT (iteT (q _ s13))
    rw [show ss.isEmpty = false by cases hss : ss with | nil => exact absurd hss hne | cons x r => rfl]
    have hb3 := s13.seq hb
    refine iteF ⟨_, rfl, _, rfl, _, rfl, b, _, rfl, hb3, fun p np => ?_⟩
    refine to_new np fun H4 s4 hp => ?_
    rw [cut1] at hp
    refine ⟨b, p, _, _, rfl, s4.seq hb3, SqL.of hp, fun D nD => lc_pure (walk_zip rfl) sqL2_mono ⟨s4.seq hb3, SqL.of hp⟩ (fun i => ((ss.zip (ss.drop 1))[i]?).map fun p => V.bl (decide (p.1 ≥ p.2))) nD (by simp; omega) ?_ ?_⟩
    · rintro i v H5 H6 hi s5 ⟨t, x, y, rfl, nt, rfl, hx, hy⟩ k kn hk _
      obtain ⟨n, rfl, hn⟩ := int_at hx
      obtain ⟨m, rfl, hm⟩ := int_at hy
      refine ⟨t, _, rfl, SqT.of upd_same, rfl, _, _, rfl, _, _, rfl, rfl, rfl, yes_of ?_⟩
      refine ⟨_, rfl, _, rfl, _, _, rfl, rfl, ?_⟩
      refine hk _ _ ?_ (Same.new nt)
      have e : (ss.zip (ss.drop 1))[i]? = some (n, m) := by rw [List.getElem?_zip_eq_some]; exact ⟨hn, hm⟩
      rw [e]
      rfl
    · intro H5 s5 hD
      rw [zipGe_vals] at hD
      refine ⟨_, _, rfl, SqL.of hD, _, rfl, ?_⟩
      rw [zipGe_all]
      have s15 := s13.trans (s4.trans s5)
      cases hri : rising ss with
      | false =>
        have e0 : barsP songs gap ss = false := by unfold barsP; rw [if_pos (.inr hri)]
        rw [e0] at q
        exact iteT (q _ s15)
      | true =>
        have hb5 := s15.seq hb
        have hd5 := (s2.trans (s3.trans (s4.trans s5))) _ _ hd
        have hd5' : H5 d = some (.dK (toK (countsOf songs))) := (s3.trans (s4.trans s5)) _ _ hd2
        have ehd : ss.headD 0 = ss.getD 0 0 := by
          cases ss with
          | nil => exact absurd rfl hne
          | cons x r => rfl
        have hn1 : ¬ (ss = [] ∨ rising ss = false) := by rw [hri]; simp [hne]
        obtain ⟨o, ho, eo⟩ := counts_at hd5' (ss.getD 0 0)
        have l0 : 0 < ss.length := List.length_pos_iff.mpr hne
        have fin : ¬ (ss.length = 1 ∧ (songs.count (ss.headD 0) : Int) > most songs gap) → barsP songs gap ss = (decide (0 < rest songs gap ∧ rest songs gap < (ss.length : Int)) && ss.all fun s => decide ((songs.count s : Int) > whole songs gap)) := fun h => by
          unfold barsP
          rw [if_neg hn1, if_neg h]
        have cond : (decide (V.int (ss.length : Nat) = V.int 1)) = decide (ss.length = 1) := by
          by_cases e : ss.length = 1
          · rw [decide_eq_true e, decide_eq_true (by rw [e]; rfl)]
          · rw [decide_eq_false e, decide_eq_false (fun z => e (by injection z; omega))]
        refine iteF ⟨fun σ' H' => ¬ (ss.length = 1 ∧ (songs.count (ss.headD 0) : Int) > most songs gap) ∧ H' = H5 ∧ ∃ x6, σ' = [some (.ref a), some (.int gap), some (.ref b), some (.ref d), some (.int ((songs.length : Int) / (gap + 1))), some (.int ((songs.length : Int) % (gap + 1))), x6, none, none], ?_, ?_⟩
        · refine ⟨_, rfl, b, _, rfl, .inl hb5, rfl, _, rfl, ?_⟩
          rw [List.length_map, cond]
          by_cases h1 : ss.length = 1
          case neg =>
            rw [decide_eq_false h1]
            exact iteF (iteF ⟨fun z => h1 z.1, rfl, _, rfl⟩)
          rw [decide_eq_true h1]
          refine iteT ⟨_, rfl, d, rfl, .inl ⟨_, .inl hd5'⟩, _, rfl, b, _, _, _, rfl, rfl, hb5, at_int (ls := ss) (by decide) (by omega), o, ho, _, rfl, _, _, eo, rfl, _, rfl, ?_⟩
          rw [em]
          by_cases h2 : (songs.count (ss.getD 0 0) : Int) > most songs gap
          · rw [decide_eq_true h2]
            have e1 : barsP songs gap ss = true := by
              unfold barsP
              rw [if_neg hn1, if_pos ⟨h1, by rw [ehd]; exact h2⟩]
            rw [e1] at q
            exact iteT (q _ s15)
          · rw [decide_eq_false h2]
            exact iteF ⟨fun z => h2 (by rw [← ehd]; exact z.2), rfl, _, rfl⟩
        · rintro σ' H' ⟨hno, rfl, x6, rfl⟩
          rw [fin hno] at q
          refine ⟨_, rfl, _, _, rfl, rfl, _, rfl, ?_⟩
          have er : (songs.length : Int) % (gap + 1) = rest songs gap := rfl
          have ew : (songs.length : Int) / (gap + 1) = whole songs gap := rfl
          by_cases r0 : 0 < rest songs gap
          case neg =>
            rw [decide_eq_false (show ¬ (0 < (songs.length : Int) % (gap + 1)) from r0)]
            rw [decide_eq_false (fun z => r0 z.1)] at q
            exact iteF ⟨_, rfl, iteF (q _ s15)⟩
          rw [decide_eq_true (show (0 < (songs.length : Int) % (gap + 1)) from r0)]
          refine iteT ⟨_, rfl, b, _, rfl, .inl hb5, _, _, rfl, rfl, _, rfl, ?_⟩
          rw [List.length_map]
          by_cases r1 : rest songs gap < (ss.length : Int)
          case neg =>
            rw [decide_eq_false (show ¬ ((songs.length : Int) % (gap + 1) < (ss.length : Int)) from r1)]
            rw [decide_eq_false (fun z => r1 z.2)] at q
            exact iteF (q _ s15)
          rw [decide_eq_true (show ((songs.length : Int) % (gap + 1) < (ss.length : Int)) from r1)]
          rw [decide_eq_true ⟨r0, r1⟩] at q
          refine iteT ⟨_, rfl, b, rfl, ⟨_, hb5⟩, fun D2 nD2 => lc_map (fun x => match x with | .int s => .bl (decide ((songs.count s : Int) > whole songs gap)) | _ => .non) hb5 nD2 (by rw [List.length_map]; omega) ?_ ?_ gname_mono⟩
          · intro i x H6 hx s6 k hk
            obtain ⟨s, rfl, hs⟩ := int_at hx
            obtain ⟨o2, ho2, eo2⟩ := counts_at (s6 _ _ hd5') s
            exact ⟨rfl, _, rfl, d, rfl, .inl ⟨_, .inl (s6 _ _ hd5')⟩, _, rfl, o2, ho2, _, rfl, _, _, eo2, rfl, hk _ (Same.refl _)⟩
          · intro H6 s6 hD2
            refine ⟨_, ss.map fun s => decide ((songs.count s : Int) > whole songs gap), rfl, SqL.of (by rw [hD2, List.map_map, List.map_map]; rfl), ?_⟩
            rw [List.all_map]
            exact q _ (s15.trans s6)
end
end Song

/-! ### Gw5: barring, keeps, turns_in -/
namespace Song
open PySem L2
theorem toK_keys (c : List (Int × Int)) : (toK c).map (·.1) = (keysC c).map Sum.inl := by
  unfold toK keysC
  rw [List.map_map, List.map_map]; rfl
theorem keys_few {songs : List Int} (h : SgOk songs) : (keysC (countsOf songs)).length < 64 := by
  obtain ⟨k1, k2⟩ := keys_counts songs
  have := nodup_len (n := 6) (ws := keysC (countsOf songs)) (fun s hs => h s ((k2 s).mp hs)) k1
  omega
theorem sng_len (songs : List Int) : (sng songs).length ≤ 6 := by
  unfold sng
  have := List.length_filter_le (fun s => decide (s ∈ songs)) (upto 6)
  rw [upto_len] at this
  exact this
def selF (ss : List Int) (f : Int → Bool) (i : Nat) : Option V := (ss[i]?).bind fun s => if f s = true then some (V.int s) else none
theorem selF_all (ss : List Int) (f : Int → Bool) : (List.range ss.length).filterMap (selF ss f) = (ss.filter f).map V.int := by
  have e : (List.range ss.length).filterMap (selF ss f) = ss.filterMap fun s => if f s = true then some (V.int s) else none := range_filterMap _ ss
  rw [e, ← List.filterMap_eq_map, List.filterMap_filter]
  rfl
section
variable {P : Program} {w : World} {K : PySem.W.Frag} {mg : Str → Option Value} {base : Heap}
theorem sc_barring : FnScope ["songs", "gap", "counts", "whole", "rest", "singer", "many"] ["songs", "gap"] (defScope s_barring) := ⟨rfl, rfl, rfl, by decide +kernel, rfl, by decide +kernel, by decide +kernel⟩
def sp_barring (K : PySem.W.Frag) : Sp := fun vs H Q _ => ∃ (a : Addr) (songs : List Int) (gap : Int), vs = [.ref a, .int gap] ∧ SqL K H a (songs.map V.int) ∧ songs.length ≤ 900 ∧ SgOk songs ∧ GapOk gap ∧
  (barring songs gap = none → ∀ H', Same H H' → Q .non H') ∧ ∀ ss, barring songs gap = some ss → ∀ b H', H b = none → Same H H' → H' b = some (.lst (ss.map V.int)) → Q (.ref b) H'
theorem fn_barring (T : Tx K mg) : Fn P w K mg base "barring" 3 (sp_barring K) := by
  obtain ⟨fd, F⟩ := T.d_barring
  refine ⟨_, fd, _, F.ok (CX := CX0) sc_barring (fun vs H Q E h => ?_) (fun cdv A outer s H vs Q E hr h => ?_), T.g_barring, F.kp, F.bindsN fun _ _ _ _ _ _ us hl => match us, hl with | [_, _], _ => rfl⟩
  · obtain ⟨a, songs, gap, rfl, _⟩ := h; rfl
  · obtain ⟨a, songs, gap, rfl, ha, hl, hs, hg, q0, q1⟩ := h
    refine ⟨_, PSs.nox (pss_cons (ps_asg (pe_tup (pa_cons (pe_fn (fn_counts_of T) (hr.mono (by first | decide | omega)) (by rfl) (pa_cons (pv 0) pa_nil)) (pa_cons (pe_op op_fdivW (pe_callB (show CallR _ _ (rLenQ K) from call_len_seq) (by rfl) T.len (by decide +kernel) (pa_cons (pv 0) pa_nil)) (pe_op op_add (pv 1) pe_int)) (pa_cons (pe_op op_mod (pe_callB (show CallR _ _ (rLenQ K) from call_len_seq) (by rfl) T.len (by decide +kernel) (pa_cons (pv 0) pa_nil)) (pe_op op_add (pv 1) pe_int)) pa_nil)))) (show PG _ _ (gTup K _ _) from pg_tup rfl (pgs_cons (pg_name (i := 2) sc_barring.nd rfl (by first | exact Or.inl rfl | exact Or.inr rfl)) (pgs_cons (pg_name (i := 3) sc_barring.nd rfl (by first | exact Or.inl rfl | exact Or.inr rfl)) (pgs_cons (pg_name (i := 4) sc_barring.nd rfl (by first | exact Or.inl rfl | exact Or.inr rfl)) pgs_nil)))))
      (pss_cons (ps_for PassesOwn.never rfl (show PI _ _ _ (iList K _) from pi_list (pe_callB (call_sortedDI (by rfl)) (by rfl) T.sorted (by decide +kernel) (pa_cons (pv 2) pa_nil))) (pg_name (i := 5) sc_barring.nd rfl (by first | exact Or.inl rfl | exact Or.inr rfl))
      (pss_one (ps_if (pt_val (pe_fn (fn_bars T) (hr.mono (by first | decide | omega)) (by rfl) (pa_cons (pv 0) (pa_cons (pv 1) (pa_cons (pe_lst (pa_cons (pv 5) pa_nil)) pa_nil))))) (pss_one (ps_ret (pe_lst (pa_cons (pv 5) pa_nil)))) pss_nil)))
      (pss_cons (ps_setLc (i := 6) (own := [("singer", 5)]) (g := (gName 5)) (tt := _) (by rfl) sc_barring.nd rfl rfl (sw_true rfl rfl rfl (by decide +kernel)) (show PI _ _ _ (iList K _) from pi_list (pe_callB (call_sortedDI (by rfl)) (by rfl) T.sorted (by decide +kernel) (pa_cons (pv 2) pa_nil))) (blkOk_by (by kernel_rfl)) (fun _ _ _ _ _ => (pg_name (i := 5) sc_barring.nd rfl (by first | exact Or.inl rfl | exact Or.inr rfl))) (fun _ _ _ _ _ => pts_one (pt_cmpR op_gt (pe_dget (hu_of hr) (pv 2) (pv 5) (fun _ _ => rfl)) (pv 3) (nomark _))) (fun _ _ _ _ _ => (pv 5)))
      (pss_one (ps_ret (pe_ifExp (pt_val (pe_fn (fn_bars T) (hr.mono (by first | decide | omega)) (by rfl) (pa_cons (pv 0) (pa_cons (pv 1) (pa_cons (pv 6) pa_nil))))) (pv 6) pe_non)))))), ?_⟩
    have hg0 := hg.1
    refine ⟨_, rfl, a, songs, rfl, ha, hl, fun d H1 nd s1 hd => ?_⟩
    refine ⟨_, rfl, a, _, rfl, .inl (s1.seq ha), _, rfl, _, _, rfl, rfl, _, _, rfl, rfl, ⟨by omega, hg.log⟩, ?_⟩
    refine ⟨_, rfl, a, _, rfl, .inl (s1.seq ha), _, rfl, _, _, rfl, rfl, _, _, rfl, rfl, (show 0 < gap + 1 by omega), ?_⟩
    refine ⟨by show 3 ≤ sizeLine; decide, fun t nt => ?_⟩
    refine to_new nt fun H2 s2 ht => ?_
    rw [List.length_map] at ht
    refine ⟨t, _, rfl, SqT.of ht, rfl, _, _, rfl, _, _, rfl, _, _, rfl, rfl, ?_⟩
    have s12 := s1.trans s2
    have hd2 := s2 _ _ hd
    have sl := sng_len songs
    refine ⟨_, rfl, d, _, keysC (countsOf songs), rfl, .inl hd2, toK_keys _, keys_few hs, fun ys p pm pw np => ?_⟩
    have eys := sng_of hs pm pw
    subst eys
    refine to_new np fun H3 s3 hp => ?_
    have s13 := s12.trans s3
    refine ⟨p, rfl, ⟨_, SqL.of hp⟩, for_list (K := K) (a := p) (xs := (sng songs).map V.int) (fun i σ H' => ∃ x5 : Option V, σ = [some (.ref a), some (.int gap), some (.ref d), some (.int ((songs.length : Int) / (gap + 1))), some (.int ((songs.length : Int) % (gap + 1))), x5, none] ∧ Same H3 H' ∧
      (sng songs).find? (fun s => barsP songs gap [s]) = ((sng songs).drop i).find? (fun s => barsP songs gap [s])) ?_ ?_ ?_ ?_⟩
    · exact ⟨_, rfl, Same.refl _, rfl⟩
    · rintro i σ G _ ⟨_, _, g, _⟩
      exact SqL.of (g _ _ hp)
    · rintro i v σ G hv ⟨x5, rfl, g, hf⟩
      obtain ⟨s, rfl, hsi⟩ := int_at hv
      have s1G := s13.trans g
      refine ⟨_, rfl, _, rfl, _, rfl, by show 1 ≤ sizeLine; decide, fun z nz => ?_⟩
      refine to_new nz fun G1 g1 hz => ?_
      have hdr : (sng songs).drop i = s :: (sng songs).drop (i + 1) := by
        obtain ⟨hlt, e⟩ := List.getElem?_eq_some_iff.mp hsi
        rw [List.drop_eq_getElem_cons hlt, e]
      rw [hdr] at hf
      refine ⟨a, z, songs, [s], gap, rfl, (s1G.trans g1).seq ha, hl, hg, SqL.of hz, by show 1 ≤ 900; decide, fun G2 g2 => ⟨_, rfl, ?_⟩⟩
      cases hB : barsP songs gap [s] with
      | true =>
        rw [List.find?_cons_of_pos (p := fun s => barsP songs gap [s]) hB] at hf
        have eb : barring songs gap = some [s] := by unfold barring; rw [hf]
        refine iteT ⟨_, rfl, by show 1 ≤ sizeLine; decide, fun b nb => ?_⟩
        have sG2 := s1G.trans (g1.trans g2)
        exact q1 [s] eb b _ (sG2.free nb) (sG2.trans (Same.new nb)) upd_same
      | false =>
        rw [List.find?_cons_of_neg (p := fun s => barsP songs gap [s]) (by rw [hB]; decide)] at hf
        exact iteF ⟨_, rfl, g.trans (g1.trans g2), hf⟩
    · rintro σ G ⟨x5, rfl, g, hf⟩
      rw [List.length_map, List.drop_length] at hf
      have hf : (sng songs).find? (fun s => barsP songs gap [s]) = none := hf
      have s1G := s13.trans g
      have hdG := (s3.trans g) _ _ hd2
      refine ⟨_, rfl, d, _, keysC (countsOf songs), rfl, .inl hdG, toK_keys _, keys_few hs, fun ys p2 pm2 pw2 np2 => ?_⟩
      have eys := sng_of hs pm2 pw2
      subst eys
      refine to_new np2 fun G1 g1 hp2 => ?_
      refine ⟨p2, rfl, ⟨_, SqL.of hp2⟩, fun D nD => lc_pure walk_list sqL_mono (SqL.of hp2) (selF (sng songs) fun s => decide ((songs.count s : Int) > whole songs gap)) nD (by rw [List.length_map]; omega) ?_ ?_⟩
      · rintro i x G2 G3 hi g2 ⟨rfl, hx⟩ k kn hk hkn
        obtain ⟨s, rfl, hsi⟩ := int_at hx
        have hsm : s ∈ songs := (mem_sng hs).mp (List.mem_of_getElem? hsi)
        refine ⟨rfl, _, rfl, _, rfl, d, _, rfl, counts_in ((g1.trans g2) _ _ hdG) hsm, _, rfl, _, _, rfl, rfl, _, rfl, ?_⟩
        by_cases c : (songs.count s : Int) > whole songs gap
        · rw [decide_eq_true (show (songs.count s : Int) > (songs.length : Int) / (gap + 1) from c)]
          refine iteT ⟨_, rfl, hk _ _ ?_ (Same.refl _)⟩
          unfold selF
          rw [hsi]
          show (if decide _ = true then _ else _) = _
          rw [decide_eq_true c, if_pos rfl]
        · rw [decide_eq_false (show ¬ (songs.count s : Int) > (songs.length : Int) / (gap + 1) from c)]
          refine iteF (hkn _ ?_ (Same.refl _))
          unfold selF
          rw [hsi]
          show (if decide _ = true then _ else _) = _
          rw [decide_eq_false c]; rfl
      · intro G2 g2 hD
        rw [List.length_map, selF_all] at hD
        have hD : G2 D = some (.lst ((full songs gap).map V.int)) := hD
        have fl : (full songs gap).length ≤ 6 := Nat.le_trans (List.length_filter_le _ _) sl
        have s1G2 := s1G.trans (g1.trans g2)
        refine ⟨_, rfl, _, rfl, _, rfl, a, D, songs, full songs gap, gap, rfl, s1G2.seq ha, hl, hg, SqL.of hD, by omega, fun G3 g3 => ⟨_, rfl, ?_⟩⟩
        cases hB : barsP songs gap (full songs gap) with
        | true =>
          have eb : barring songs gap = some (full songs gap) := by unfold barring; rw [hf]; exact if_pos hB
          exact iteT ⟨_, rfl, q1 _ eb D G3 ((s1G.trans g1).free nD) (s1G2.trans g3) (g3 _ _ hD)⟩
        | false =>
          have eb : barring songs gap = none := by unfold barring; rw [hf]; exact if_neg (by rw [hB]; decide)
          exact iteF (q0 eb _ (s1G2.trans g3))
theorem sc_keeps : FnScope ["songs", "order", "gap", "least"] ["songs", "order", "gap"] (defScope s_keeps) := ⟨rfl, rfl, rfl, by decide +kernel, rfl, by decide +kernel, by decide +kernel⟩
def sp_keeps (K : PySem.W.Frag) : Sp := fun vs H Q _ => ∃ (a b : Addr) (cs : List V) (R : List (List Int)) (os : List Int) (gap : Int), vs = [.ref a, .ref b, .int gap] ∧ SqL K H a cs ∧ Rows K H cs R ∧ (∀ r ∈ R, r.length ≤ 3) ∧ SqL K H b (os.map V.int) ∧ InB R.length os ∧ os.length ≤ 100 ∧
  ∀ H', Same H H' → Q (.bl (match least (pick R os) with | none => true | some m => decide (m ≥ gap))) H'
theorem fn_keeps (T : Tx K mg) : Fn P w K mg base "keeps" 2 (sp_keeps K) := by
  obtain ⟨fd, F⟩ := T.d_keeps
  refine ⟨_, fd, _, F.ok (CX := CX0) sc_keeps (fun vs H Q E h => ?_) (fun cdv A outer s H vs Q E hr h => ?_), T.g_keeps, F.kp, F.bindsN fun _ _ _ _ _ _ us hl => match us, hl with | [_, _, _], _ => rfl⟩
  · obtain ⟨a, b, cs, R, os, gap, rfl, _⟩ := h; rfl
  · obtain ⟨a, b, cs, R, os, gap, rfl, ha, hR, h3, hb, hi, hl, q⟩ := h
    refine ⟨_, PSs.nox (pss_cons (ps_set (i := 3) sc_keeps.nd rfl (by first | exact Or.inl rfl | exact Or.inr rfl) (pe_fn (fn_least_between T) (hr.mono (by first | decide | omega)) (by rfl) (pa_cons (pv 0) (pa_cons (pv 1) pa_nil))))
      (pss_one (ps_ret (pe_or (pe_cmpR op_isN (pv 3) pe_non (nomark _)) (pe_one (pe_cmpR op_ge (pv 3) (pv 2) (nomark _))))))), ?_⟩
    refine ⟨_, rfl, _, rfl, a, b, cs, R, os, rfl, ha, hR, h3, hb, hi, hl, fun H1 s1 => ?_⟩
    have z := q H1 s1
    refine ⟨_, rfl, rfl, _, rfl, ?_⟩
    cases e : least (pick R os) with
    | none =>
      rw [e] at z
      exact iteT z
    | some m =>
      rw [e] at z
      exact iteF ⟨_, rfl, _, rfl, _, _, rfl, rfl, z⟩
theorem sc_turns_in : FnScope ["many", "wide", "found", "rest"] ["many", "wide"] (defScope s_turns_in) := ⟨rfl, rfl, rfl, by decide +kernel, rfl, by decide +kernel, by decide +kernel⟩
def sp_turns_in : Sp := fun vs H Q _ => ∃ n k : Nat, vs = [.int n, .int k] ∧ 0 < k ∧ (k : Int) < 2 ^ 101 ∧ n ≤ 900 ∧ ∀ l H', H l = none → Same H H' → H' l = some (.lst ((turnsIn n k).map V.int)) → Q (.ref l) H'
theorem rg_cls {n k c : Nat} (hk : 0 < k) (hc : c < n) : Builtin.Range.rangeSize (c : Int) (n : Int) (k : Int) = (((n - c - 1) / k + 1 : Nat) : Int) := by
  unfold Builtin.Range.rangeSize
  rw [if_pos (by omega), if_pos (by omega), show (n : Int) - c - 1 = ((n - c - 1 : Nat) : Int) by omega]
  rfl
theorem rg_clsV (n k c : Nat) : rgVc (c : Int) (k : Int) ((n - c - 1) / k + 1) = (cls n k c).map V.int := by
  unfold rgVc cls
  rw [List.map_map]
  refine List.map_congr_left fun i _ => ?_
  show V.int _ = V.int _
  congr 1
theorem fn_turns_in (T : Tx K mg) : Fn P w K mg base "turns_in" 1 sp_turns_in := by
  obtain ⟨fd, F⟩ := T.d_turns_in
  refine ⟨_, fd, _, F.ok (CX := CX0) sc_turns_in (fun vs H Q E h => ?_) (fun cdv A outer s H vs Q E hr h => ?_), T.g_turns_in, F.kp, F.bindsN fun _ _ _ _ _ _ us hl => match us, hl with | [_, _], _ => rfl⟩
  · obtain ⟨n, k, rfl, _⟩ := h; rfl
  · obtain ⟨n, k, rfl, hk, hk2, hn, q⟩ := h
    refine ⟨_, PSs.nox (pss_cons (ps_set (i := 2) sc_turns_in.nd rfl (by first | exact Or.inl rfl | exact Or.inr rfl) (pe_lst pa_nil))
      (pss_cons (ps_for PassesOwn.never rfl (pi_range3 (by rfl) T.range (pa_cons (pe_op op_sub (pe_callB (call_min2 (by rfl)) (by rfl) T.min (by decide +kernel) (pa_cons (pv 1) (pa_cons (pv 0) pa_nil))) pe_int) (pa_cons (pe_un un_neg pe_int) (pa_cons (pe_un un_neg pe_int) pa_nil)))) (pg_name (i := 3) sc_turns_in.nd rfl (by first | exact Or.inl rfl | exact Or.inr rfl))
      (pss_one (ps_expr (show PE _ _ (tBM K _ _ _ _) from pe_bm PySem.F.plainAttrs_list PySem.F.slot_list_extend PySem.F.type_list_extend mt_extend (pv 2) (pa_cons (pe_listRg3 (by rfl) (by rfl) T.list (by rfl) T.range (pa_cons (pv 3) (pa_cons (pv 0) (pa_cons (pv 1) pa_nil)))) pa_nil)))))
      (pss_one (ps_ret (pv 2))))), ?_⟩
    refine ⟨Nat.zero_le _, fun l nl => ?_⟩
    refine to_new nl fun H1 s1 hl => ?_
    have em : (if (n : Int) < (k : Int) then (n : Int) else (k : Int)) = ((min k n : Nat) : Int) := by
      split <;> omega
    refine ⟨_, rfl, _, rfl, _, _, rfl, ?_⟩
    rw [em]
    generalize hm : min k n = m
    have m1 : m ≤ k := by omega
    have m2 : m ≤ n := by omega
    have et : turnsIn n k = Tn n k m := by unfold turnsIn; rw [hm]
    have rg : RgC ((m : Int) - 1) (-1) (-1) m := by
      have z := RgC.neg (i := (m : Int) - 1) (j := -1) (by omega) (by omega) (by decide) (by decide)
      rw [show ((m : Int) - 1 - -1).toNat = m by omega] at z
      exact z
    refine ⟨_, _, rfl, rfl, _, rfl, _, rfl, _, _, _, m, rfl, rg, for_rangeC (fun i σ H' => ∃ (x3 : Option V) (acc : List Int), σ = [some (.int n), some (.int k), some (.ref l), x3] ∧ Fra [l] H1 H' ∧ H' l = some (.lst (acc.map V.int)) ∧ acc ++ Tn n k (m - i) = Tn n k m) ?_ ?_ ?_⟩
    · exact ⟨_, [], rfl, Fra.refl _ _, hl, rfl⟩
    · rintro i σ G hi ⟨x3, acc, rfl, f, hG, hacc⟩
      obtain ⟨c, hc⟩ : ∃ c, m - i = c + 1 := ⟨m - i - 1, by omega⟩
      have ev : (m : Int) - 1 + (i : Int) * -1 = (c : Int) := by omega
      rw [ev]
      rw [hc] at hacc
      have lenT := Tn_len (n := n) hk m m1 m2
      have lt : (turnsIn n k).length = n := turns_len hk
      rw [et] at lt
      have la := congrArg List.length hacc
      rw [lt, List.length_append] at la
      have lc : (cls n k c).length ≤ n := by
        have : (Tn n k (c + 1)).length = (cls n k c).length + (Tn n k c).length := List.length_append
        omega
      have lcs := cls_len n k c
      refine ⟨_, rfl, .inl ⟨rfl, _, SqL.of hG⟩, _, rfl, _, rfl, _, rfl, _, _, _, _, rfl, by omega, PyProof.noPylong_of_log2 ?_, rg_cls hk (by omega), by omega, fun z nz => ?_⟩
      · refine Nat.lt_of_lt_of_le ((Nat.log2_lt (k := 101) (by omega)).mpr ?_) (by decide)
        have : ((k : Int)).natAbs = k := rfl
        rw [this]
        exact Int.ofNat_lt.mp hk2
      rw [rg_clsV]
      refine to_new nz fun G1 g1 hz => ?_
      refine ⟨l, z, _, _, rfl, rfl, g1 _ _ hG, hz, ?_, ?_⟩
      · rw [List.length_map, List.length_map]
        have := lt_line (n := acc.length + (cls n k c).length) (by
          have : (Tn n k (c + 1)).length = (cls n k c).length + (Tn n k c).length := List.length_append
          omega)
        omega
      refine to_put fun G2 f2 h2 => ?_
      refine ⟨_, acc ++ cls n k c, rfl, f.trans ((Fra.of g1).trans f2), by rw [List.map_append]; exact h2, ?_⟩
      rw [show m - (i + 1) = c by omega, List.append_assoc]
      exact hacc
    · rintro σ G ⟨x3, acc, rfl, f, hG, hacc⟩
      rw [Nat.sub_self] at hacc
      have e : acc = Tn n k m := by rw [← hacc]; exact (List.append_nil _).symm
      rw [e, ← et] at hG
      exact ⟨_, rfl, q l G nl (f.back s1 (fun x hx => by rw [List.mem_singleton.mp hx]; exact nl)) hG⟩
end
end Song

/-! ### Gw6: order_for, check_songs, the answers Spaced and Barred, spaced -/
namespace Song
open PySem L2
theorem barring_len {songs : List Int} {gap : Int} {ss : List Int} (h : barring songs gap = some ss) : ss.length ≤ 6 := by
  unfold barring at h
  cases e : (sng songs).find? fun s => barsP songs gap [s] with
  | some s => rw [e] at h; rw [← Option.some.inj h]; show 1 ≤ 6; decide
  | none =>
    rw [e] at h
    dsimp only at h
    split at h
    · rw [← Option.some.inj h]; exact Nat.le_trans (List.length_filter_le _ _) (sng_len songs)
    · cases h
theorem orderFor_len (songs : List Int) (gap : Int) : (orderFor songs gap).length = songs.length := by
  unfold orderFor
  rw [setAts_len, List.length_replicate]
section
variable {P : Program} {w : World} {K : PySem.W.Frag} {mg : Str → Option Value} {base : Heap}
theorem sc_order_for : FnScope ["songs", "gap", "counts", "whole", "few", "singer", "full", "places", "place", "one", "found", "turn"] ["songs", "gap"] (defScope s_order_for) := ⟨rfl, rfl, rfl, by decide +kernel, rfl, by decide +kernel, by decide +kernel⟩
def sp_order_for (K : PySem.W.Frag) : Sp := fun vs H Q _ => ∃ (a : Addr) (songs : List Int) (gap : Int), vs = [.ref a, .int gap] ∧ SqL K H a (songs.map V.int) ∧ songs.length ≤ 60 ∧ SgOk songs ∧ GapOk gap ∧
  ∀ b H', H b = none → Same H H' → H' b = some (.lst ((orderFor songs gap).map V.int)) → Q (.ref b) H'
theorem rep0 (n : Nat) : (List.replicate n [V.int 0]).flatten = (List.replicate n (0 : Int)).map V.int := by rw [rep_flat, rep_ints]
theorem set_ints (l : List Int) (j : Nat) (x : Int) : (l.map V.int).set j (V.int x) = (l.set j x).map V.int := by rw [List.map_set]
theorem fn_order_for (T : Tx K mg) : Fn P w K mg base "order_for" 2 (sp_order_for K) := by
  obtain ⟨fd, F⟩ := T.d_order_for
  refine ⟨_, fd, _, F.ok (CX := CX0) sc_order_for (fun vs H Q E h => ?_) (fun cdv A outer s H vs Q E hr h => ?_), T.g_order_for, F.kp, F.bindsN fun _ _ _ _ _ _ us hl => match us, hl with | [_, _], _ => rfl⟩
  · obtain ⟨a, songs, gap, rfl, _⟩ := h; rfl
  · obtain ⟨a, songs, gap, rfl, ha, hl, hs, hg, q⟩ := h
    refine ⟨_, PSs.nox (pss_cons (ps_asg (pe_tup (pa_cons (pe_fn (fn_counts_of T) (hr.mono (by first | decide | omega)) (by rfl) (pa_cons (pv 0) pa_nil)) (pa_cons (pe_op op_fdivW (pe_callB (show CallR _ _ (rLenQ K) from call_len_seq) (by rfl) T.len (by decide +kernel) (pa_cons (pv 0) pa_nil)) (pe_op op_add (pv 1) pe_int)) pa_nil))) (show PG _ _ (gTup K _ _) from pg_tup rfl (pgs_cons (pg_name (i := 2) sc_order_for.nd rfl (by first | exact Or.inl rfl | exact Or.inr rfl)) (pgs_cons (pg_name (i := 3) sc_order_for.nd rfl (by first | exact Or.inl rfl | exact Or.inr rfl)) pgs_nil))))
      (pss_cons (ps_setLc (i := 4) (own := [("singer", 5)]) (g := (gName 5)) (tt := _) (by rfl) sc_order_for.nd rfl rfl (sw_true rfl rfl rfl (by decide +kernel)) (show PI _ _ _ (iList K _) from pi_list (pe_callB (call_sortedDI (by rfl)) (by rfl) T.sorted (by decide +kernel) (pa_cons (pv 2) pa_nil))) (blkOk_by (by kernel_rfl)) (fun _ _ _ _ _ => (pg_name (i := 5) sc_order_for.nd rfl (by first | exact Or.inl rfl | exact Or.inr rfl))) (fun _ _ _ _ _ => pts_one (pt_cmpR op_le (pe_dget (hu_of hr) (pv 2) (pv 5) (fun _ _ => rfl)) (pv 3) (nomark _))) (fun _ _ _ _ _ => (pv 5)))
      (pss_cons (ps_setLc (i := 6) (own := [("singer", 5)]) (g := (gName 5)) (tt := _) (by rfl) sc_order_for.nd rfl rfl (sw_true rfl rfl rfl (by decide +kernel)) (show PI _ _ _ (iList K _) from pi_list (pe_callB (call_sortedDI (by rfl)) (by rfl) T.sorted (by decide +kernel) (pa_cons (pv 2) pa_nil))) (blkOk_by (by kernel_rfl)) (fun _ _ _ _ _ => (pg_name (i := 5) sc_order_for.nd rfl (by first | exact Or.inl rfl | exact Or.inr rfl))) (fun _ _ _ _ _ => pts_one (pt_cmpR op_gt (pe_dget (hu_of hr) (pv 2) (pv 5) (fun _ _ => rfl)) (pv 3) (nomark _))) (fun _ _ _ _ _ => (pv 5)))
      (pss_cons (ps_set (i := 7) sc_order_for.nd rfl (by first | exact Or.inl rfl | exact Or.inr rfl) (pe_lst pa_nil))
      (pss_cons (ps_for PassesOwn.never rfl (show PI _ _ _ (iList K _) from pi_list (pe_op op_cat (pv 4) (pv 6))) (pg_name (i := 5) sc_order_for.nd rfl (by first | exact Or.inl rfl | exact Or.inr rfl))
      (pss_one (ps_expr (show PE _ _ (tBM K _ _ _ _) from pe_bm PySem.F.plainAttrs_list PySem.F.slot_list_extend PySem.F.type_list_extend mt_extend (pv 7) (pa_cons (pe_lc (own := [("place", 8), ("one", 9)]) (g := (gTup K 2 (gCons (gName 8) (gCons (gName 9) gNil)))) (tt := _) (by rfl) sc_order_for.nd (show PI _ _ _ (iEnum K _) from pi_enum (by rfl) T.enumerate (pa_cons (pv 0) pa_nil)) (blkOk_by (by kernel_rfl)) (fun _ _ _ _ _ => (show PG _ _ (gTup K _ _) from pg_tup rfl (pgs_cons (pg_name (i := 8) sc_order_for.nd rfl (by first | exact Or.inl rfl | exact Or.inr rfl)) (pgs_cons (pg_name (i := 9) sc_order_for.nd rfl (by first | exact Or.inl rfl | exact Or.inr rfl)) pgs_nil)))) (fun _ _ _ _ _ => pts_one (pt_cmpR op_eq (pv 9) (pv 5) (nomark _))) (fun _ _ _ _ _ => (pv 8))) pa_nil)))))
      (pss_cons (ps_set (i := 10) sc_order_for.nd rfl (by first | exact Or.inl rfl | exact Or.inr rfl) (pe_op op_rep (pe_lst (pa_cons pe_int pa_nil)) (pe_callB (show CallR _ _ (rLenQ K) from call_len_seq) (by rfl) T.len (by decide +kernel) (pa_cons (pv 0) pa_nil))))
      (pss_cons (ps_for PassesOwn.never rfl (show PI _ _ _ (iZip K _) from pi_zip (by rfl) T.zip (pa_cons (pv 7) (pa_cons (pe_fn (fn_turns_in T) (hr.mono (by first | decide | omega)) (by rfl) (pa_cons (pe_callB (show CallR _ _ (rLenQ K) from call_len_seq) (by rfl) T.len (by decide +kernel) (pa_cons (pv 0) pa_nil)) (pa_cons (pe_op op_add (pv 1) pe_int) pa_nil))) pa_nil))) (show PG _ _ (gTup K _ _) from pg_tup rfl (pgs_cons (pg_name (i := 8) sc_order_for.nd rfl (by first | exact Or.inl rfl | exact Or.inr rfl)) (pgs_cons (pg_name (i := 11) sc_order_for.nd rfl (by first | exact Or.inl rfl | exact Or.inr rfl)) pgs_nil)))
      (pss_one (ps_asg (pv 8) (pg_sub (pv 10) (pv 11) set_list))))
      (pss_one (ps_ret (pv 10)))))))))), ?_⟩
    have hg0 := hg.1
    have hg1 := hg.2
    have sl := sng_len songs
    refine ⟨_, rfl, a, songs, rfl, ha, by omega, fun d H1 nd s1 hd => ?_⟩
    refine ⟨_, rfl, a, _, rfl, .inl (s1.seq ha), _, rfl, _, _, rfl, rfl, _, _, rfl, rfl, ⟨by omega, hg.log⟩, ?_⟩
    refine ⟨by show 2 ≤ sizeLine; decide, fun t nt => ?_⟩
    refine to_new nt fun H2 s2 ht => ?_
    rw [List.length_map] at ht
    refine ⟨t, _, rfl, SqT.of ht, rfl, _, _, rfl, _, _, rfl, rfl, ?_⟩
    have s12 := s1.trans s2
    have hd2 := s2 _ _ hd
    refine ⟨_, rfl, d, _, keysC (countsOf songs), rfl, .inl hd2, toK_keys _, keys_few hs, fun ys p2 pm2 pw2 np2 => ?_⟩
    have eys := sng_of hs pm2 pw2
    subst eys
    refine to_new np2 fun G1 g1 hp2 => ?_
    refine ⟨p2, rfl, ⟨_, SqL.of hp2⟩, fun D nD => lc_pure walk_list sqL_mono (SqL.of hp2) (selF (sng songs) fun s => decide ((songs.count s : Int) ≤ whole songs gap)) nD (by rw [List.length_map]; omega) ?_ ?_⟩
    · rintro i x G2 G3 hi g2 ⟨rfl, hx⟩ k kn hk hkn
      obtain ⟨s, rfl, hsi⟩ := int_at hx
      have hsm : s ∈ songs := (mem_sng hs).mp (List.mem_of_getElem? hsi)
      refine ⟨rfl, _, rfl, _, rfl, d, _, rfl, counts_in ((g1.trans g2) _ _ hd2) hsm, _, rfl, _, _, rfl, rfl, _, rfl, ?_⟩
      by_cases c : (songs.count s : Int) ≤ whole songs gap
      · rw [decide_eq_true (show (songs.count s : Int) ≤ (songs.length : Int) / (gap + 1) from c)]
        refine iteT ⟨_, rfl, hk _ _ ?_ (Same.refl _)⟩
        unfold selF
        rw [hsi]
        show (if decide _ = true then _ else _) = _
        rw [decide_eq_true c, if_pos rfl]
      · rw [decide_eq_false (show ¬ (songs.count s : Int) ≤ (songs.length : Int) / (gap + 1) from c)]
        refine iteF (hkn _ ?_ (Same.refl _))
        unfold selF
        rw [hsi]
        show (if decide _ = true then _ else _) = _
        rw [decide_eq_false c]; rfl
    intro H3 s3 hD
    rw [List.length_map, selF_all] at hD
    have hD : H3 D = some (.lst ((few songs gap).map V.int)) := hD
    have fwl : (few songs gap).length ≤ 6 := Nat.le_trans (List.length_filter_le _ _) sl
    have s13 := s12.trans (g1.trans s3)
    have hd3 := (g1.trans s3) _ _ hd2
    refine ⟨_, rfl, d, _, keysC (countsOf songs), rfl, .inl hd3, toK_keys _, keys_few hs, fun ys p3 pm3 pw3 np3 => ?_⟩
    have eys := sng_of hs pm3 pw3
    subst eys
    refine to_new np3 fun G4 g4 hp3 => ?_
    refine ⟨p3, rfl, ⟨_, SqL.of hp3⟩, fun E nE => lc_pure walk_list sqL_mono (SqL.of hp3) (selF (sng songs) fun s => decide ((songs.count s : Int) > whole songs gap)) nE (by rw [List.length_map]; omega) ?_ ?_⟩
    · rintro i x G2 G3 hi g2 ⟨rfl, hx⟩ k kn hk hkn
      obtain ⟨s, rfl, hsi⟩ := int_at hx
      have hsm : s ∈ songs := (mem_sng hs).mp (List.mem_of_getElem? hsi)
      refine ⟨rfl, _, rfl, _, rfl, d, _, rfl, counts_in ((g4.trans g2) _ _ hd3) hsm, _, rfl, _, _, rfl, rfl, _, rfl, ?_⟩
      by_cases c : (songs.count s : Int) > whole songs gap
      · rw [decide_eq_true (show (songs.count s : Int) > (songs.length : Int) / (gap + 1) from c)]
        refine iteT ⟨_, rfl, hk _ _ ?_ (Same.refl _)⟩
        unfold selF
        rw [hsi]
        show (if decide _ = true then _ else _) = _
        rw [decide_eq_true c, if_pos rfl]
      · rw [decide_eq_false (show ¬ (songs.count s : Int) > (songs.length : Int) / (gap + 1) from c)]
        refine iteF (hkn _ ?_ (Same.refl _))
        unfold selF
        rw [hsi]
        show (if decide _ = true then _ else _) = _
        rw [decide_eq_false c]; rfl
    intro H5 s5 hE
    rw [List.length_map, selF_all] at hE
    have hE : H5 E = some (.lst ((full songs gap).map V.int)) := hE
    have fll : (full songs gap).length ≤ 6 := Nat.le_trans (List.length_filter_le _ _) sl
    have s35 := g4.trans s5
    have s15 := s13.trans s35
    refine ⟨Nat.zero_le _, fun l nl => ?_⟩
    refine to_new nl fun H6 s6 hl6 => ?_
    refine ⟨_, rfl, _, rfl, D, E, _, _, rfl, rfl, s6 _ _ (s35 _ _ hD), s6 _ _ hE, ?_, fun z nz => ?_⟩
    · rw [List.length_map, List.length_map]
      have := lt_line (n := (few songs gap).length + (full songs gap).length) (by omega)
      omega
    rw [← List.map_append]
    refine to_new nz fun H7 s7 hz => ?_
    have s16 := s15.trans s6
    have s17 := s16.trans s7
    have nzl : z ≠ l := (ne_of_none hl6 nz).symm
    have nlH : H l = none := s15.free nl
    generalize hsf : few songs gap ++ full songs gap = sf at *
    have sfl : sf.length ≤ 12 := by rw [← hsf, List.length_append]; omega
    refine ⟨z, rfl, ⟨_, SqL.of hz⟩, for_list (K := K) (a := z) (xs := sf.map V.int) (fun i σ H' => ∃ (x5 x8 x9 : Option V), σ = [some (.ref a), some (.int gap), some (.ref d), some (.int ((songs.length : Int) / (gap + 1))), some (.ref D), x5, some (.ref E), some (.ref l), x8, x9, none, none] ∧
      Fra [l] H7 H' ∧ H' l = some (.lst ((placesOf songs (sf.take i)).map V.int)) ∧ (placesOf songs (sf.take i)).length ≤ 60 * i) ?_ ?_ ?_ ?_⟩
    · exact ⟨_, _, _, rfl, Fra.refl _ _, s7 _ _ hl6, Nat.le_refl _⟩
    · rintro i σ G _ ⟨_, _, _, _, f, _⟩
      exact SqL.of (f.one nzl hz)
    · rintro i v σ G hv ⟨x5, x8, x9, rfl, f, hG, hpl⟩
      obtain ⟨s, rfl, hsi⟩ := int_at hv
      have hi : i < sf.length := (List.getElem?_eq_some_iff.mp hsi).1
      have sG : Same H G := f.back s17 (fun x hx => by rw [List.mem_singleton.mp hx]; exact nlH)
      have haG := sG.seq ha
      refine ⟨_, rfl, .inl ⟨rfl, _, SqL.of hG⟩, _, rfl, a, _, rfl, haG, fun W nW => lc_pure walk_enum sqL_mono haG (spotF s (singles songs)) nW (by rw [List.length_map]; omega) ?_ ?_⟩
      · rintro k v H3 H4 hk s3 ⟨t, x, y, rfl, nt, rfl, hx, hy⟩ kk kn hkk hkn
        cases hx
        obtain ⟨o, rfl, ho⟩ := int_at hy
        have sT : Same H3 _ := Same.new (o := .tup [V.int (k : Nat), V.int o]) nt
        refine ⟨t, _, rfl, SqT.of upd_same, rfl, _, _, rfl, _, _, rfl, rfl, rfl, ?_⟩
        refine ⟨_, rfl, _, rfl, rfl, _, rfl, ?_⟩
        have hk2 : k < songs.length := (List.getElem?_eq_some_iff.mp ho).1
        have er : (singles songs).getD k [] = [o] := by
          rw [singles_getD hk2, List.getD_eq_getElem?_getD, ho]; rfl
        by_cases hm : o = s
        · rw [decide_eq_true (congrArg V.int hm)]
          refine iteT ⟨_, rfl, hkk _ _ ?_ sT⟩
          unfold spotF
          rw [er, if_pos (by rw [hm]; exact List.mem_singleton.mpr rfl)]
        · rw [decide_eq_false (fun z => hm (by injection z))]
          refine iteF (hkn _ ?_ sT)
          unfold spotF
          rw [er, if_neg (fun z => hm (List.mem_singleton.mp z).symm)]
      · intro G1 g1 hW
        rw [List.length_map, ← singles_len, spotF_all] at hW
        have pl := placesOf_map songs (sf.take i)
        have spl : (spots s (singles songs)).length ≤ 60 := by
          rw [places_len]
          exact Nat.le_trans List.count_le_length hl
        refine ⟨l, W, _, _, rfl, rfl, g1 _ _ hG, hW, ?_, ?_⟩
        · rw [List.length_map, List.length_map]
          have := lt_line (n := (placesOf songs (sf.take i)).length + (spots s (singles songs)).length) (by omega)
          omega
        refine to_put fun G2 f2 h2 => ?_
        have e : placesOf songs (sf.take (i + 1)) = placesOf songs (sf.take i) ++ spots s (singles songs) := by
          obtain ⟨hlt, eo⟩ := List.getElem?_eq_some_iff.mp hsi
          unfold placesOf
          rw [List.take_succ_eq_append_getElem hlt, List.flatMap_append, eo]
          simp
        refine ⟨_, _, _, rfl, f.trans ((Fra.of g1).trans f2), ?_, ?_⟩
        · rw [e, List.map_append]; exact h2
        · rw [e, List.length_append]; omega
    · rintro σ G ⟨x5, x8, x9, rfl, f, hG, _⟩
      rw [List.length_map, List.take_length] at hG
      have sG : Same H G := f.back s17 (fun x hx => by rw [List.mem_singleton.mp hx]; exact nlH)
      refine ⟨by show 1 ≤ sizeLine; decide, fun y ny => ?_⟩
      refine to_new ny fun G1 g1 hy => ?_
      have sG1 := sG.trans g1
      refine ⟨_, rfl, a, _, rfl, .inl (sG1.seq ha), y, _, _, rfl, rfl, hy, by omega, by rw [List.length_map]; omega, ?_, fun fo nfo => ?_⟩
      · rw [List.length_map]
        show 1 * ((songs.length : Int)).toNat ≤ sizeLine
        have := lt_line (n := songs.length) (by omega)
        omega
      rw [List.length_map, show ((songs.length : Int)).toNat = songs.length by omega, rep0]
      refine to_new nfo fun G2 g2 hfo => ?_
      have sG2 := sG1.trans g2
      have hk : ((gap.toNat + 1 : Nat) : Int) = gap + 1 := by omega
      refine ⟨_, rfl, _, rfl, a, _, rfl, .inl (sG2.seq ha), _, rfl, _, _, rfl, rfl, songs.length, gap.toNat + 1, ?_, by omega, by omega, by omega, fun tt G3 ntt g3 htt => ?_⟩
      · rw [List.length_map, hk]; rfl
      have hl3 := (g1.trans (g2.trans g3)) _ _ hG
      have hfo3 := g3 _ _ hfo
      have nlf : l ≠ fo := ne_of_none (g1 _ _ hG) nfo
      have ntf : tt ≠ fo := (ne_of_none hfo ntt).symm
      have sG3 := sG2.trans g3
      have nfoH : H fo = none := sG1.free nfo
      have pP : (placesOf songs sf).Perm (upto songs.length) := by
        obtain ⟨f1, f2⟩ := filter_split songs gap
        rw [← hsf]
        exact placesOf_perm f1 fun s h => (f2 s).mpr ((mem_sng hs).mpr h)
      have lP : (placesOf songs sf).length = songs.length := by rw [pP.length_eq, upto_len]
      have hw : 0 < gap.toNat + 1 := by omega
      have lT := turns_len (n := songs.length) hw
      have iT : InB songs.length (turnsIn songs.length (gap.toNat + 1)) := perm_in (turns_perm hw)
      have eo : orderFor songs gap = ((placesOf songs sf).zip (turnsIn songs.length (gap.toNat + 1))).foldl setAt (List.replicate songs.length 0) := by unfold orderFor; rw [hsf]
      generalize placesOf songs sf = PL at *
      generalize turnsIn songs.length (gap.toNat + 1) = TT at *
      have zl : (PL.zip TT).length = songs.length := by rw [List.length_zip]; omega
      refine ⟨l, tt, _, _, rfl, SqL.of hl3, SqL.of htt, for_it (walk_zip (xs := PL.map V.int) (ys := TT.map V.int) rfl) (fun i σ H' => ∃ (x8 x11 : Option V), σ = [some (.ref a), some (.int gap), some (.ref d), some (.int ((songs.length : Int) / (gap + 1))), some (.ref D), x5, some (.ref E), some (.ref l), x8, x9, some (.ref fo), x11] ∧
        Fra [fo] G3 H' ∧ H' fo = some (.lst ((((PL.zip TT).take i).foldl setAt (List.replicate songs.length 0)).map V.int))) ?_ ?_ ?_ ?_⟩
      · exact ⟨_, _, rfl, Fra.refl _ _, hfo3⟩
      · rintro i σ W _ ⟨_, _, _, f3, _⟩
        exact ⟨SqL.of (f3.one nlf hl3), SqL.of (f3.one ntf htt)⟩
      · rintro i v σ W W2 hi ⟨y8, y11, rfl, f3, hW⟩ ⟨t, x, y, rfl, nt, rfl, hx, hy⟩
        obtain ⟨pl, rfl, hp⟩ := int_at hx
        obtain ⟨tu, rfl, htu⟩ := int_at hy
        have hin := iT tu (List.mem_of_getElem? htu)
        refine ⟨t, _, rfl, SqT.of upd_same, rfl, _, _, rfl, _, _, rfl, rfl, ?_⟩
        have hz : (PL.zip TT)[i]? = some (pl, tu) := by rw [List.getElem?_zip_eq_some]; exact ⟨hp, htu⟩
        refine to_new nt fun W3 w3 _ => ?_
        have ll : (((PL.zip TT).take i).foldl setAt (List.replicate songs.length 0)).length = songs.length := by rw [setAts_len, List.length_replicate]
        refine ⟨_, rfl, _, rfl, _, rfl, fo, _, tu, tu.toNat, rfl, rfl, w3 _ _ hW, ixN_of hin.1 (by rw [List.length_map, ll]; exact hin.2), ?_⟩
        rw [set_ints]
        refine to_put fun W4 f4 h4 => ?_
        refine ⟨_, _, rfl, f3.trans ((Fra.of w3).trans f4), ?_⟩
        rw [foldl_take _ _ _ _ _ hz]
        exact h4
      · rintro σ W ⟨y8, y11, rfl, f3, hW⟩
        have e : min (PL.map V.int).length (TT.map V.int).length = (PL.zip TT).length := by rw [List.length_map, List.length_map, List.length_zip]
        rw [e, List.take_length, ← eo] at hW
        exact ⟨_, rfl, q fo W nfoH (f3.back sG3 (fun x hx => by rw [List.mem_singleton.mp hx]; exact nfoH)) hW⟩
theorem sc_check_songs : FnScope ["songs", "one"] ["songs"] (defScope s_check_songs) := ⟨rfl, rfl, rfl, by decide +kernel, rfl, by decide +kernel, by decide +kernel⟩
/-- songs of one singer each -/
def SongsOk (songs : List Int) : Prop := songs.length ≤ 24 ∧ SgOk songs
def sp_check_songs (K : PySem.W.Frag) : Sp := fun vs H Q _ => ∃ (a : Addr) (songs : List Int), vs = [.ref a] ∧ SqL K H a (songs.map V.int) ∧ SongsOk songs ∧ ∀ H', Same H H' → Q .non H'
theorem fn_check_songs (T : Tx K mg) : Fn P w K mg base "check_songs" 3 (sp_check_songs K) := by
  obtain ⟨fd, F⟩ := T.d_check_songs
  refine ⟨_, fd, _, F.ok (CX := CX0) sc_check_songs (fun vs H Q E h => ?_) (fun cdv A outer s H vs Q E hr h => ?_), T.g_check_songs, F.kp, F.bindsN fun _ _ _ _ _ _ us hl => match us, hl with | [_], _ => rfl⟩
  · obtain ⟨a, songs, rfl, _⟩ := h; rfl
  · obtain ⟨a, songs, rfl, ha, ⟨hl, hs⟩, q⟩ := h
    refine ⟨_, PSs.nox (pss_one (ps_if (PW.pt (pw_or (pt_not (pt_val (pe_fn (fn_are_numbers T) (hr.mono (by first | decide | omega)) (by rfl) (pa_cons (pv 0) pa_nil)))) (pw_or (pt_cmpR op_gt (pe_callB (show CallR _ _ (rLenQ K) from call_len_seq) (by rfl) T.len (by decide +kernel) (pa_cons (pv 0) pa_nil)) (pe_gi T.c_MOST_SONGS (by rfl)) (nomark _)) (pw_or1 (pt_not (pt_val (pe_callB (show CallR _ _ (rAll K) from cr_all (by rfl)) (by rfl) T.all (by decide +kernel) (pa_cons (pe_lc (own := [("one", 1)]) (g := (gName 1)) (tt := tYes) (by rfl) sc_check_songs.nd (show PI _ _ _ (iList K _) from pi_list (pv 0)) (blkOk_by (by kernel_rfl)) (fun _ _ _ _ _ => (pg_name (i := 1) sc_check_songs.nd rfl (by first | exact Or.inl rfl | exact Or.inr rfl))) (fun _ _ _ _ _ => pts_nil) (fun _ _ _ _ _ => (pe_chain op_le op_lt pe_int (pv 1) (pe_gi T.c_MOST_SINGERS (by rfl))))) pa_nil)))))))) (pss_one ps_never) pss_nil)), ?_⟩
    have allI : (songs.map V.int).all isInt = true := by
      rw [List.all_map, List.all_eq_true]; intro x _; rfl
    refine ⟨_, rfl, _, rfl, .inl ⟨a, _, rfl, ha, by rw [List.length_map]; omega, fun x hx => ?_, fun H1 s1 => ?_⟩⟩
    · obtain ⟨i, _, rfl⟩ := List.mem_map.mp hx
      exact ⟨_, kd_int i⟩
    rw [allI]
    refine ⟨_, rfl, iteF ⟨_, rfl, a, _, rfl, .inl (s1.seq ha), _, _, rfl, rfl, _, rfl, ?_⟩⟩
    rw [decide_eq_false (by rw [List.length_map]; omega)]
    refine iteF ⟨_, rfl, a, rfl, ⟨_, s1.seq ha⟩, fun D nD => lc_map (fun x => .bl (inR 6 x)) (s1.seq ha) nD (by rw [List.length_map]; omega) ?_ ?_ gname_mono⟩
    · intro i x H2 hx s2 k hk
      obtain ⟨n, rfl, _⟩ := int_at hx
      refine ⟨rfl, _, rfl, _, _, rfl, rfl, _, rfl, ?_⟩
      have hk2 : k (.bl (decide (0 ≤ n) && decide (n < 6))) H2 := hk H2 (Same.refl _)
      by_cases h0 : (0 : Int) ≤ n
      · rw [decide_eq_true h0] at hk2 ⊢
        exact iteT ⟨_, _, rfl, rfl, hk2⟩
      · rw [decide_eq_false h0] at hk2 ⊢
        exact iteF hk2
    intro H2 s2 hD
    refine ⟨_, (songs.map V.int).map (inR 6), rfl, SqL.of (by rw [← bls_all]; exact hD), _, rfl, ?_⟩
    rw [all_id, inR_all, List.all_eq_true.mpr fun s h => decide_eq_true (hs s h)]
    exact iteF (q _ (s1.trans s2))
/-! #### answers with a list -/
def orF (l : Addr) : List (Str × V) := [("order", .ref l)]
theorem orF_order (l : Addr) : (orF l).lookup ("order" : Str) = some (.ref l) := by kernel_rfl
theorem orF_shows (l : Addr) : (orF l).lookup ("shows" : Str) = none := by kernel_rfl
theorem orF_put (l : Addr) : putF "order" (.ref l) [] = orF l := by kernel_rfl
def siF (l : Addr) : List (Str × V) := [("singers", .ref l)]
theorem siF_singers (l : Addr) : (siF l).lookup ("singers" : Str) = some (.ref l) := by kernel_rfl
theorem siF_shows (l : Addr) : (siF l).lookup ("shows" : Str) = none := by kernel_rfl
theorem siF_put (l : Addr) : putF "singers" (.ref l) [] = siF l := by kernel_rfl
theorem sc_Spaced___init__ : FnScope ["self", "order"] ["self", "order"] (defScope s_Spaced___init__) := ⟨rfl, rfl, rfl, by decide +kernel, rfl, by decide +kernel, by decide +kernel⟩
def sp_spaced_init (K : PySem.W.Frag) : Sp := fun vs H Q _ => ∃ (p dx b : Addr) (os : List V), vs = [.ref p, .ref b] ∧ SqL K H b os ∧ H p = some (.ins (He.ga K "Spaced") dx []) ∧ ∀ l H', Fra [p] H H' → H l = none → H' l = some (.lst os) → H' p = some (.ins (He.ga K "Spaced") dx (orF l)) → Q .non H'
theorem mk_Spaced (T : Tx K mg) : Mke P w K mg base "Spaced" (He.ga K "Spaced") 1 (sp_spaced_init K) := by
  obtain ⟨fd, F⟩ := T.d_Spaced___init__
  refine ⟨_, fd, _, F.ok (CX := CX0) sc_Spaced___init__ (fun vs H Q E h => ?_) (fun cdv A outer s H vs Q E hr h => ?_), T.mk_Spaced, T.g_Spaced, F.bindsN fun _ _ _ _ _ _ us hl => match us, hl with | [_, _], _ => rfl⟩
  · obtain ⟨p, dx, b, os, rfl, _⟩ := h; rfl
  · obtain ⟨p, dx, b, os, rfl, hb, hp, q⟩ := h
    refine ⟨_, PSs.nox (pss_one (show PS _ _ (sFld K _ _ _) from ps_fld (pv 0) (pe_callTy (show CallR _ _ (rListO K) from call_list_of) (by rfl) T.list (by decide +kernel) (pa_cons (pv 1) pa_nil)) rfl)), ?_⟩
    refine ⟨_, rfl, b, _, rfl, .inl hb, fun l nl => ?_⟩
    refine to_new nl fun H1 s1 hl => ?_
    refine ⟨_, rfl, p, _, dx, _, rfl, s1 _ _ hp, T.cls_Spaced, T.na_Spaced_order, by show 0 < 1000; decide, ?_⟩
    rw [orF_put]
    exact to_put fun H2 f2 hp2 => q l H2 ((Fra.of s1).trans f2) nl (f2.one (ne_of_none hp nl).symm hl) hp2
theorem sc_Barred___init__ : FnScope ["self", "singers"] ["self", "singers"] (defScope s_Barred___init__) := ⟨rfl, rfl, rfl, by decide +kernel, rfl, by decide +kernel, by decide +kernel⟩
def sp_barred_init (K : PySem.W.Frag) : Sp := fun vs H Q _ => ∃ (p dx b : Addr) (os : List V), vs = [.ref p, .ref b] ∧ SqL K H b os ∧ H p = some (.ins (He.ga K "Barred") dx []) ∧ ∀ l H', Fra [p] H H' → H l = none → H' l = some (.lst os) → H' p = some (.ins (He.ga K "Barred") dx (siF l)) → Q .non H'
theorem mk_Barred (T : Tx K mg) : Mke P w K mg base "Barred" (He.ga K "Barred") 1 (sp_barred_init K) := by
  obtain ⟨fd, F⟩ := T.d_Barred___init__
  refine ⟨_, fd, _, F.ok (CX := CX0) sc_Barred___init__ (fun vs H Q E h => ?_) (fun cdv A outer s H vs Q E hr h => ?_), T.mk_Barred, T.g_Barred, F.bindsN fun _ _ _ _ _ _ us hl => match us, hl with | [_, _], _ => rfl⟩
  · obtain ⟨p, dx, b, os, rfl, _⟩ := h; rfl
  · obtain ⟨p, dx, b, os, rfl, hb, hp, q⟩ := h
    refine ⟨_, PSs.nox (pss_one (show PS _ _ (sFld K _ _ _) from ps_fld (pv 0) (pe_callTy (show CallR _ _ (rListO K) from call_list_of) (by rfl) T.list (by decide +kernel) (pa_cons (pv 1) pa_nil)) rfl)), ?_⟩
    refine ⟨_, rfl, b, _, rfl, .inl hb, fun l nl => ?_⟩
    refine to_new nl fun H1 s1 hl => ?_
    refine ⟨_, rfl, p, _, dx, _, rfl, s1 _ _ hp, T.cls_Barred, T.na_Barred_singers, by show 0 < 1000; decide, ?_⟩
    rw [siF_put]
    exact to_put fun H2 f2 hp2 => q l H2 ((Fra.of s1).trans f2) nl (f2.one (ne_of_none hp nl).symm hl) hp2
/-- a Spaced, its order at l -/
def SpAt (K : PySem.W.Frag) (H : Hp) (p l : Addr) (os : List Int) : Prop := (∃ dx, H p = some (.ins (He.ga K "Spaced") dx (orF l))) ∧ H l = some (.lst (os.map V.int))
def BaAt (K : PySem.W.Frag) (H : Hp) (p l : Addr) (ss : List Int) : Prop := (∃ dx, H p = some (.ins (He.ga K "Barred") dx (siF l))) ∧ H l = some (.lst (ss.map V.int))
theorem SpAt.mono {H H' : Hp} {p l : Addr} {os : List Int} (s : Same H H') (h : SpAt K H p l os) : SpAt K H' p l os := by
  obtain ⟨⟨dx, h1⟩, h2⟩ := h
  exact ⟨⟨dx, s _ _ h1⟩, s _ _ h2⟩
theorem BaAt.mono {H H' : Hp} {p l : Addr} {os : List Int} (s : Same H H') (h : BaAt K H p l os) : BaAt K H' p l os := by
  obtain ⟨⟨dx, h1⟩, h2⟩ := h
  exact ⟨⟨dx, s _ _ h1⟩, s _ _ h2⟩
theorem sc_Spaced_shows : FnScope ["self", "songs", "gap", "singer"] ["self", "songs", "gap"] (defScope s_Spaced_shows) := ⟨rfl, rfl, rfl, by decide +kernel, rfl, by decide +kernel, by decide +kernel⟩
/-- whether an order shows it -/
def showsSp (songs os : List Int) (gap : Int) : Bool := os.isPerm (upto songs.length) && keepsP songs os gap
def sp_spaced_shows (K : PySem.W.Frag) : Sp := fun vs H Q _ => ∃ (p l a : Addr) (songs os : List Int) (gap : Int), vs = [.ref p, .ref a, .int gap] ∧ SpAt K H p l os ∧ SqL K H a (songs.map V.int) ∧ songs.length ≤ 60 ∧ ∀ H', Same H H' → Q (.bl (showsSp songs os gap)) H'
theorem perm_dec {ns os : List Int} {n : Nat} (p : ns.Perm os) (pw : ns.Pairwise (· ≤ ·)) : decide (ns = upto n) = os.isPerm (upto n) := by
  rw [Bool.eq_iff_iff, decide_eq_true_eq, List.isPerm_iff]
  constructor
  · intro e; rw [← e]; exact p.symm
  · intro h; exact perm_sorted_eq (p.trans h) pw (upto_sorted _)
theorem me_Spaced_shows (T : Tx K mg) : Me P w K mg base (He.ga K "Spaced") "shows" 3 (sp_spaced_shows K) := by
  obtain ⟨fd, F⟩ := T.d_Spaced_shows
  refine ⟨_, fd, _, F.ok (CX := CX0) sc_Spaced_shows (fun vs H Q E h => ?_) (fun cdv A outer s H vs Q E hr h => ?_), T.cls_Spaced, T.me_Spaced_shows, F.bindsN fun _ _ _ _ _ _ us hl => match us, hl with | [_, _, _], _ => rfl⟩
  · obtain ⟨p, l, a, songs, os, gap, rfl, _⟩ := h; rfl
  · obtain ⟨p, l, a, songs, os, gap, rfl, ⟨⟨dx, hp⟩, hlo⟩, ha, hl, q⟩ := h
    refine ⟨_, PSs.nox (pss_cons (ps_if (pt_cmpR (show OpR _ _ (rNeD K) from op_neD hr.units) (pe_callB (show CallR _ _ (rSortedI K) from cr_sortedI) (by rfl) T.sorted (by decide +kernel) (pa_cons (show PE _ _ (tFld K _ _) from pe_fld (pv 0) rfl) pa_nil)) (pe_listRg (by rfl) (by rfl) T.list (prg_1 (by rfl) T.range (pe_callB (show CallR _ _ (rLenQ K) from call_len_seq) (by rfl) T.len (by decide +kernel) (pa_cons (pv 1) pa_nil)))) (nomark _)) (pss_one (ps_ret pe_bl)) pss_nil)
      (pss_one (ps_ret (pe_fn (fn_keeps T) (hr.mono (by first | decide | omega)) (by rfl) (pa_cons (pe_lc (own := [("singer", 3)]) (g := (gName 3)) (tt := tYes) (by rfl) sc_Spaced_shows.nd (show PI _ _ _ (iList K _) from pi_list (pv 1)) (blkOk_by (by kernel_rfl)) (fun _ _ _ _ _ => (pg_name (i := 3) sc_Spaced_shows.nd rfl (by first | exact Or.inl rfl | exact Or.inr rfl))) (fun _ _ _ _ _ => pts_nil) (fun _ _ _ _ _ => (pe_lst (pa_cons (pv 3) pa_nil)))) (pa_cons (show PE _ _ (tFld K _ _) from pe_fld (pv 0) rfl) (pa_cons (pv 2) pa_nil))))))), ?_⟩
    refine ⟨_, rfl, p, _, dx, _, _, rfl, hp, T.cls_Spaced, T.na_Spaced_order, orF_order _, l, os, rfl, SqL.of hlo, fun ns z pm pw nz => ?_⟩
    refine to_new nz fun H1 s1 hz => ?_
    refine ⟨_, rfl, a, _, rfl, .inl (s1.seq ha), _, rfl, ⟨by decide, by decide, by omega, by rw [List.length_map]; omega, by rw [List.length_map]; omega⟩, fun r nr => ?_⟩
    rw [List.length_map, rg0]
    refine to_new nr fun H2 s2 hr2 => ?_
    refine ⟨_, _, dp_ints (SqL.of (s2 _ _ hz)), dp_ints (SqL.of hr2), (shp_ints _).ok, (shp_ints _).ok, _, rfl, ?_⟩
    rw [eqv_intsD, perm_dec pm pw]
    have s12 := s1.trans s2
    unfold showsSp at q
    cases hP : os.isPerm (upto songs.length) with
    | false =>
      rw [hP] at q
      exact iteT (q _ s12)
    | true =>
      rw [hP] at q
      have pe : os.Perm (upto songs.length) := List.isPerm_iff.mp hP
      have ol : os.length = songs.length := by rw [pe.length_eq, upto_len]
      refine iteF ⟨_, rfl, a, rfl, ⟨_, s12.seq ha⟩, fun D nD => lc_all walk_list sqL_mono (s12.seq ha) (fun i H y => RowAt K H y ((singles songs).getD i [])) (fun _ _ _ _ s h => h.mono s) nD (by rw [List.length_map]; omega) ?_ ?_ gname_mono⟩
      · rintro k x G1 G2 acc hk g1 hD ⟨rfl, hx⟩ kk hkk
        obtain ⟨s, rfl, hs⟩ := int_at hx
        have hk2 : k < songs.length := (List.getElem?_eq_some_iff.mp hs).1
        refine ⟨rfl, _, rfl, by show 1 ≤ sizeLine; decide, fun u nu => hkk _ _ (Same.new nu) ?_⟩
        rw [singles_getD hk2, List.getD_eq_getElem?_getD, hs]
        refine ⟨u, rfl, SqL.of ?_⟩
        rw [off_out (by simp; exact (ne_of_none hD nu).symm)]
        exact upd_same
      · intro ch H3 s3 hD chl hch
        rw [List.length_map] at chl
        have hRE : Rows K H3 ch (singles songs) := ⟨by rw [chl, singles_len], fun i v e => (hch i v e).mono (off_le _ _)⟩
        have s23 := s12.trans s3
        refine ⟨_, rfl, p, _, dx, _, _, rfl, s23 _ _ hp, T.cls_Spaced, T.na_Spaced_order, orF_order _, _, rfl, D, l, ch, singles songs, os, gap, rfl, SqL.of hD, hRE, fun r hr => ?_, SqL.of (s23 _ _ hlo), by rw [singles_len]; exact perm_in pe, by omega, fun H4 s4 => ?_⟩
        · obtain ⟨s, _, rfl⟩ := List.mem_map.mp hr
          show 1 ≤ 3; decide
        exact q _ (s23.trans s4)
theorem sc_Barred_shows : FnScope ["self", "songs", "gap"] ["self", "songs", "gap"] (defScope s_Barred_shows) := ⟨rfl, rfl, rfl, by decide +kernel, rfl, by decide +kernel, by decide +kernel⟩
def sp_barred_shows (K : PySem.W.Frag) : Sp := fun vs H Q _ => ∃ (p l a : Addr) (songs ss : List Int) (gap : Int), vs = [.ref p, .ref a, .int gap] ∧ BaAt K H p l ss ∧ SqL K H a (songs.map V.int) ∧ songs.length ≤ 60 ∧ GapOk gap ∧ ss.length ≤ 900 ∧ ∀ H', Same H H' → Q (.bl (barsP songs gap ss)) H'
theorem me_Barred_shows (T : Tx K mg) : Me P w K mg base (He.ga K "Barred") "shows" 3 (sp_barred_shows K) := by
  obtain ⟨fd, F⟩ := T.d_Barred_shows
  refine ⟨_, fd, _, F.ok (CX := CX0) sc_Barred_shows (fun vs H Q E h => ?_) (fun cdv A outer s H vs Q E hr h => ?_), T.cls_Barred, T.me_Barred_shows, F.bindsN fun _ _ _ _ _ _ us hl => match us, hl with | [_, _, _], _ => rfl⟩
  · obtain ⟨p, l, a, songs, ss, gap, rfl, _⟩ := h; rfl
  · obtain ⟨p, l, a, songs, ss, gap, rfl, ⟨⟨dx, hp⟩, hlo⟩, ha, hl, hg, hsl, q⟩ := h
    refine ⟨_, PSs.nox (pss_one (ps_ret (pe_fn (fn_bars T) (hr.mono (by first | decide | omega)) (by rfl) (pa_cons (pv 1) (pa_cons (pv 2) (pa_cons (show PE _ _ (tFld K _ _) from pe_fld (pv 0) rfl) pa_nil)))))), ?_⟩
    exact ⟨_, rfl, _, rfl, _, rfl, p, _, dx, _, _, rfl, hp, T.cls_Barred, T.na_Barred_singers, siF_singers _, a, l, songs, ss, gap, rfl, ha, by omega, hg, SqL.of hlo, hsl, fun H1 s1 => q _ s1⟩
theorem sc_spaced : FnScope ["songs", "gap", "singers"] ["songs", "gap"] (defScope s_spaced) := ⟨rfl, rfl, rfl, by decide +kernel, rfl, by decide +kernel, by decide +kernel⟩
def sp_spaced (K : PySem.W.Frag) : Sp := fun vs H Q _ => ∃ (a : Addr) (songs : List Int) (gap : Int), vs = [.ref a, .int gap] ∧ SqL K H a (songs.map V.int) ∧ SongsOk songs ∧ GapOk gap ∧
  (barring songs gap = none → ∀ p l H', H p = none → H l = none → Same H H' → SpAt K H' p l (orderFor songs gap) → Q (.ref p) H') ∧ ∀ ss, barring songs gap = some ss → ∀ p l H', H p = none → H l = none → Same H H' → BaAt K H' p l ss → Q (.ref p) H'
theorem fn_spaced (T : Tx K mg) : Fn P w K mg base "spaced" 4 (sp_spaced K) := by
  obtain ⟨fd, F⟩ := T.d_spaced
  refine ⟨_, fd, _, F.ok (CX := CX0) sc_spaced (fun vs H Q E h => ?_) (fun cdv A outer s H vs Q E hr h => ?_), T.g_spaced, F.kp, F.bindsN fun _ _ _ _ _ _ us hl => match us, hl with | [_, _], _ => rfl⟩
  · obtain ⟨a, songs, gap, rfl, _⟩ := h; rfl
  · obtain ⟨a, songs, gap, rfl, ha, hS, hg, q0, q1⟩ := h
    refine ⟨_, PSs.nox (pss_cons (ps_expr (pe_fn (fn_check_songs T) (hr.mono (by first | decide | omega)) (by rfl) (pa_cons (pv 0) pa_nil)))
      (pss_cons (ps_if (PW.pt (pw_or (pt_not (pt_val (pe_fn (fn_is_whole T) (hr.mono (by first | decide | omega)) (by rfl) (pa_cons (pv 1) pa_nil)))) (pw_or1 (pt_cmpR op_lt (pv 1) pe_int (nomark _))))) (pss_one ps_never) pss_nil)
      (pss_cons (ps_set (i := 2) sc_spaced.nd rfl (by first | exact Or.inl rfl | exact Or.inr rfl) (pe_fn (fn_barring T) (hr.mono (by first | decide | omega)) (by rfl) (pa_cons (pv 0) (pa_cons (pv 1) pa_nil))))
      (pss_one (ps_ret (pe_ifExp (pt_cmpR op_notN (pv 2) pe_non (nomark _)) (pe_mk (mk_Barred T) (hr.mono (by first | decide | omega)) (by rfl) (pa_cons (pv 2) pa_nil)) (pe_mk (mk_Spaced T) (hr.mono (by first | decide | omega)) (by rfl) (pa_cons (pe_fn (fn_order_for T) (hr.mono (by first | decide | omega)) (by rfl) (pa_cons (pv 0) (pa_cons (pv 1) pa_nil))) pa_nil)))))))), ?_⟩
    have hg0 := hg.1
    have hl := hS.1
    have hs := hS.2
    refine ⟨_, rfl, a, songs, rfl, ha, hS, fun H1 s1 => ?_⟩
    refine ⟨_, rfl, _, "int", rfl, kd_int gap, _, rfl, iteF ⟨_, rfl, _, _, rfl, rfl, _, rfl, ?_⟩⟩
    rw [decide_eq_false (by omega)]
    refine iteF ⟨_, rfl, _, rfl, a, songs, gap, rfl, s1.seq ha, by omega, hs, hg, fun hn H2 s2 => ?_, fun ss hn b H2 nb s2 hb => ?_⟩
    · have s12 := s1.trans s2
      refine ⟨_, rfl, rfl, _, rfl, iteF ⟨_, rfl, _, rfl, a, songs, gap, rfl, s12.seq ha, by omega, hs, hg, fun b H3 nb s3 hb => ?_⟩⟩
      have s13 := s12.trans s3
      intro p dx np ndx ned
      exact ⟨p, dx, b, (orderFor songs gap).map V.int, rfl, (made_same np ndx (Fra.refl _ _)).seq (SqL.of hb), upd_same, fun l H4 f4 nl hl4 hp4 => ⟨rfl, q0 hn p l H4 (s13.free np) (s13.free (made_free nl)) (s13.trans (made_same np ndx f4)) ⟨⟨dx, hp4⟩, hl4⟩⟩⟩
    · have s12 := s1.trans s2
      refine ⟨_, rfl, rfl, _, rfl, iteT ⟨_, rfl, ?_⟩⟩
      intro p dx np ndx ned
      exact ⟨p, dx, b, ss.map V.int, rfl, (made_same np ndx (Fra.refl _ _)).seq (SqL.of hb), upd_same, fun l H4 f4 nl hl4 hp4 => ⟨rfl, q1 ss hn p l H4 (s12.free np) (s12.free (made_free nl)) (s12.trans (made_same np ndx f4)) ⟨⟨dx, hp4⟩, hl4⟩⟩⟩
end
end Song

/-! ### Sy: _law_says -/
namespace Song
open PySem L2
section
variable {P : Program} {w : World} {K : PySem.W.Frag} {mg : Str → Option Value} {base : Heap}
theorem sc__law_says : FnScope ["_law_said", "_law_due_here"] ["_law_said", "_law_due_here"] (defScope s__law_says) := ⟨rfl, rfl, rfl, by decide +kernel, rfl, by decide +kernel, by decide +kernel⟩
def sp_says (K : PySem.W.Frag) : Sp := fun vs H Q _ => ∃ a b : Bool, vs = [.bl a, .bl b] ∧ Q (.bl (decide (a = b))) H
theorem fn__law_says (T : Tx K mg) : Fn P w K mg base "_law_says" 1 (sp_says K) := by
  obtain ⟨fd, F⟩ := T.d__law_says
  refine ⟨_, fd, _, F.ok (CX := CX0) sc__law_says (fun vs H Q E h => ?_) (fun cdv A outer s H vs Q E hr h => ?_), T.g__law_says, F.kp, F.bindsN fun _ _ _ _ _ _ us hl => match us, hl with | [_, _], _ => rfl⟩
  · obtain ⟨a, b, rfl, _⟩ := h; rfl
  · obtain ⟨a, b, rfl, q⟩ := h
    refine ⟨_, PSs.nox (pss_one (ps_ret (pe_and (pe_callB (show CallR _ _ (rIsi K) from call_isi) (by rfl) T.isinstance (by decide +kernel) (pa_cons (pv 0) (pa_cons (pe_gt (n := "bool") T.bool (by rfl) (by decide +kernel)) pa_nil))) (pe_one (pe_cmpR op_eq (pv 0) (pv 1) (nomark _)))))), ?_⟩
    have kb : Kd K H (.bl a) "bool" := .base (.bl a)
    refine ⟨_, rfl, _, _, _, _, _, rfl, .ty _, kb, (kit_kd kb).2.1, _, rfl, iteT ?_⟩
    refine ⟨_, rfl, _, rfl, rfl, ?_⟩
    have e : decide (V.bl a = V.bl b) = decide (a = b) := by cases a <;> cases b <;> rfl
    rw [e]
    exact q
end
end Song

/-! ### Lg1: the law's songs, its own keeping and barring (k05, k06, k07) -/
namespace Song
open PySem L2
section
variable {P : Program} {w : World} {K : PySem.W.Frag} {mg : Str → Option Value} {base : Heap}
theorem sc__law_songs : FnScope ["_law_script", "_law_by", "_law_most", "_law_cell", "_law_found", "_law_kind", "_law_many", "_law_at", "_law_number"] ["_law_script", "_law_by", "_law_most"] (defScope s__law_songs) := ⟨rfl, rfl, rfl, by decide +kernel, rfl, by decide +kernel, by decide +kernel⟩
def sp_law_songs (K : PySem.W.Frag) : Sp := fun vs H Q _ => ∃ (a : Addr) (ns : List Int) (by_ most : Int), vs = [.ref a, .int by_, .int most] ∧ SqL K H a (ns.map V.int) ∧ Scr ns ∧ 0 ≤ by_ ∧ 0 ≤ most ∧ most ≤ 24 ∧
  ∀ l H' songs, H l = none → Same H H' → H' l = some (.lst (songs.map V.int)) → (songs.length : Int) ≤ most → SgOk songs → Q (.ref l) H'
theorem fn__law_songs (T : Tx K mg) : Fn P w K mg base "_law_songs" 3 (sp_law_songs K) := by
  obtain ⟨fd, F⟩ := T.d__law_songs
  refine ⟨_, fd, _, F.ok (CX := CX0) sc__law_songs (fun vs H Q E h => ?_) (fun cdv A outer s H vs Q E hr h => ?_), T.g__law_songs, F.kp, F.bindsN fun _ _ _ _ _ _ us hl => match us, hl with | [_, _, _], _ => rfl⟩
  · obtain ⟨a, ns, by_, most, rfl, _⟩ := h; rfl
  · obtain ⟨a, ns, by_, most, rfl, hs, hb, hby, m0, m24, q⟩ := h
    refine ⟨_, PSs.nox (pss_cons (ps_par (i := 3) (j := 4) (by rfl) sc__law_songs.nd rfl rfl (by decide) rfl rfl (pa_cons (pe_fn (fn__law_cell_at T) (hr.mono (by first | decide | omega)) (by rfl) (pa_cons (pv 0) (pa_cons (pv 1) pa_nil))) (pa_cons (pe_lst pa_nil) pa_nil)) (by rfl))
      (pss_cons (ps_par (i := 5) (j := 6) (by rfl) sc__law_songs.nd rfl rfl (by decide) rfl rfl (pa_cons (pe_op op_mod (pe_fn (fn__law_value T) (hr.mono (by first | decide | omega)) (by rfl) (pa_cons (pv 3) (pa_cons pe_int pa_nil))) pe_int) (pa_cons (pe_op op_mod (pe_fn (fn__law_value T) (hr.mono (by first | decide | omega)) (by rfl) (pa_cons (pv 3) (pa_cons pe_int pa_nil))) (pe_op op_add (pv 2) pe_int)) pa_nil)) (by rfl))
      (pss_cons (ps_for PassesOwn.never rfl (pi_range1 (by rfl) T.range (pa_cons (pv 6) pa_nil)) (pg_name (i := 7) sc__law_songs.nd rfl (by first | exact Or.inl rfl | exact Or.inr rfl))
      (pss_cons (ps_set (i := 8) sc__law_songs.nd rfl (by first | exact Or.inl rfl | exact Or.inr rfl) (pe_op op_fdivW (pe_fn (fn__law_value T) (hr.mono (by first | decide | omega)) (by rfl) (pa_cons (pe_op op_add (pe_fn (fn__law_cell_at T) (hr.mono (by first | decide | omega)) (by rfl) (pa_cons (pv 0) (pa_cons (pe_op op_add (pv 1) (pe_op op_mod (pv 7) pe_int)) pa_nil))) (pe_op op_mulO pe_int (pv 7))) (pa_cons (pe_op op_add pe_int (pe_op op_mod (pv 7) pe_int)) pa_nil))) pe_int))
      (pss_cons (ps_cut (ps_if (PW.pt (pw_and (pt_cmpR op_eq (pv 5) pe_int (nomark _)) (pw_and1 (pt_cmpR op_gt (pe_op op_mod (pe_op op_fdivW (pv 8) pe_int) pe_int) pe_int (nomark _))))) (pss_one (ps_set (i := 8) sc__law_songs.nd rfl (by first | exact Or.inl rfl | exact Or.inr rfl) pe_int)) pss_nil))
      (pss_one (ps_expr (show PE _ _ (tBM K _ _ _ _) from pe_bm PySem.F.plainAttrs_list PySem.F.slot_list_append PySem.F.type_list_append mt_append (pv 4) (pa_cons (pe_op op_mod (pv 8) (pe_ix (show IxR _ (rIxT K) from ix_tup) (pe_tup (pa_cons pe_int (pa_cons pe_int (pa_cons pe_int (pa_cons pe_int pa_nil))))) (pv 5) (fun _ _ => rfl))) pa_nil)))))))
      (pss_one (ps_ret (pv 4)))))), ?_⟩
    have cb : ∀ k : Int, Bits 1048600 (cellAt ns k) := fun k => (hb.cell k).mono (by decide)
    refine ⟨_, rfl, _, rfl, a, ns, by_, rfl, hs, hby, Nat.zero_le _, fun l nl => ?_⟩
    refine to_new nl fun H1 s1 hl => ?_
    refine ⟨_, _, rfl, ?_⟩
    refine ⟨_, rfl, _, _, rfl, cb _, by decide, by decide, fun H2 s2 => ⟨_, _, rfl, rfl, (show (0 : Int) < 4 by decide), ?_⟩⟩
    refine ⟨_, rfl, _, _, rfl, cb _, by decide, by decide, fun H3 s3 => ⟨_, rfl, _, _, rfl, rfl, _, _, rfl, rfl, (show (0 : Int) < most + 1 by omega), ?_⟩⟩
    refine ⟨_, _, rfl, ?_⟩
    have k0 := Int.emod_nonneg (lawValue (cellAt ns by_) 3) (b := 4) (by decide)
    have k1 := Int.emod_lt_of_pos (lawValue (cellAt ns by_) 3) (b := 4) (by decide)
    have n0 := Int.emod_nonneg (lawValue (cellAt ns by_) 4) (b := most + 1) (by omega)
    have n1 := Int.emod_lt_of_pos (lawValue (cellAt ns by_) 4) (b := most + 1) (by omega)
    obtain ⟨kind, hkind⟩ : ∃ k, lawValue (cellAt ns by_) 3 % 4 = k := ⟨_, rfl⟩
    obtain ⟨many, hmany⟩ : ∃ k, lawValue (cellAt ns by_) 4 % (most + 1) = k := ⟨_, rfl⟩
    rw [show (fun i j : Int => V.int (i % j)) (lawValue (cellAt ns by_) 3) 4 = V.int kind from congrArg V.int hkind, show (fun i j : Int => V.int (i % j)) (lawValue (cellAt ns by_) 4) (most + 1) = V.int many from congrArg V.int hmany]
    rw [hkind] at k0 k1
    rw [hmany] at n0 n1
    have s13 := s2.trans s3
    have s03 := s1.trans s13
    refine ⟨_, rfl, _, rfl, by omega, by omega, for_range (lo := 0) (fun i σ H' => ∃ (songs : List Int) (x7 x8 : Option V), σ = [some (.ref a), some (.int by_), some (.int most), some (.int (cellAt ns by_)), some (.ref l), some (.int kind), some (.int many), x7, x8] ∧
      Same H H' ∧ H' l = some (.lst (songs.map V.int)) ∧ songs.length = i ∧ SgOk songs) ?_ ?_ ?_⟩
    · exact ⟨[], _, _, rfl, s03, s13 _ _ hl, rfl, fun s h => by cases h⟩
    · rintro i σ G hi ⟨songs, x7, x8, rfl, g, hlG, hsl, hsg⟩
      have i24 : (i : Int) < 25 := by omega
      have m70 := Int.emod_nonneg (0 + (i : Int)) (b := 7) (by decide)
      have m60 := Int.emod_nonneg (0 + (i : Int)) (b := 6) (by decide)
      have m61 := Int.emod_lt_of_pos (0 + (i : Int)) (b := 6) (by decide)
      refine ⟨_, rfl, _, rfl, _, rfl, _, _, rfl, rfl, (show (0 : Int) < 7 by decide), _, _, rfl, rfl, a, ns, _, rfl, g.seq hs, by omega, ?_⟩
      have cbs := (hb.cell (by_ + (0 + (i : Int)) % 7))
      generalize cellAt ns (by_ + (0 + (i : Int)) % 7) = cell at *
      refine ⟨_, rfl, _, _, rfl, rfl, mulS (.inl (by decide)), _, _, rfl, rfl, _, rfl, _, _, rfl, rfl, (show (0 : Int) < 6 by decide), _, _, rfl, rfl, _, _, rfl, ?_, by omega, by omega, fun G1 g1 => ?_⟩
      · exact (Bits.add cbs (Bits.small (n := 1048576) (by omega) (by decide))).mono (by decide)
      generalize hval : lawValue (cell + 13 * (0 + (i : Int))) (2 + (0 + (i : Int)) % 6) = val
      have hv0 : 0 ≤ val := by rw [← hval]; exact lawValue_nn _ _
      refine ⟨_, _, rfl, rfl, ⟨by decide, by decide +kernel⟩, ?_⟩
      refine ⟨fun σ' H' => ∃ num : Int, H' = G1 ∧ σ' = [some (.ref a), some (.int by_), some (.int most), some (.int (cellAt ns by_)), some (.ref l), some (.int kind), some (.int many), some (.int (0 + (i : Int))), some (.int num)], ?_, ?_⟩
      · refine ⟨_, rfl, rfl, _, rfl, ?_⟩
        by_cases c0 : V.int kind = V.int 0
        · rw [decide_eq_true c0]
          refine iteT ⟨_, rfl, _, _, rfl, rfl, ⟨by decide, by decide +kernel⟩, _, _, rfl, rfl, (show (0 : Int) < 3 by decide), _, _, rfl, rfl, _, rfl, ?_⟩
          by_cases c1 : val / 3 / 7 % 3 > 0
          · rw [decide_eq_true c1]
            exact iteT ⟨_, rfl, rfl⟩
          · rw [decide_eq_false c1]
            exact iteF ⟨_, rfl, rfl⟩
        · rw [decide_eq_false c0]
          exact iteF (iteF ⟨_, rfl, rfl⟩)
      · rintro σ' H' ⟨num, rfl, rfl⟩
        refine ⟨_, rfl, .inl ⟨rfl, _, SqL.of (g1 _ _ hlG)⟩, _, rfl, by show 4 ≤ sizeLine; decide, fun t nt => ?_⟩
        refine to_new nt fun G2 g2 ht => ?_
        have hw : 0 < ([6, 3, 6, 2] : List Int).getD kind.toNat 0 ∧ ([6, 3, 6, 2] : List Int).getD kind.toNat 0 ≤ 6 := by
          have e : kind.toNat = 0 ∨ kind.toNat = 1 ∨ kind.toNat = 2 ∨ kind.toNat = 3 := by omega
          rcases e with e | e | e | e <;> rw [e] <;> decide
        refine ⟨_, rfl, t, ([6, 3, 6, 2] : List Int).map V.int, _, _, rfl, rfl, SqT.of ht, at_int (ls := [6, 3, 6, 2]) k0 k1, _, _, rfl, rfl, hw.1, l, _, _, rfl, rfl, (g1.trans g2) _ _ hlG, lt_line (by rw [List.length_map]; omega), ?_⟩
        generalize ([6, 3, 6, 2] : List Int).getD kind.toNat 0 = wd at *
        rw [← snoc_ints]
        refine to_put fun G3 f3 h3 => ?_
        refine ⟨_, _, _, rfl, f3.back (g.trans (g1.trans g2)) (fun x hx => by rw [List.mem_singleton.mp hx]; exact nl), h3, by rw [List.length_append, hsl]; rfl, fun s h => ?_⟩
        rcases List.mem_append.mp h with z | z
        · exact hsg s z
        · rw [List.mem_singleton.mp z]
          have := Int.emod_nonneg num (b := wd) (by omega)
          have := Int.emod_lt_of_pos num (b := wd) (by omega)
          omega
    · rintro σ G ⟨songs, x7, x8, rfl, g, hlG, hsl, hsg⟩
      exact ⟨_, rfl, q l G songs nl g hlG (by omega) hsg⟩
theorem sc__law_keeps : FnScope ["_law_songs_here", "_law_order", "_law_gap", "_law_at", "_law_place", "_law_far"] ["_law_songs_here", "_law_order", "_law_gap"] (defScope s__law_keeps) := ⟨rfl, rfl, rfl, by decide +kernel, rfl, by decide +kernel, by decide +kernel⟩
def sp_law_keeps (K : PySem.W.Frag) : Sp := fun vs H Q _ => ∃ (a b : Addr) (songs os : List Int) (gap : Int), vs = [.ref a, .ref b, .int gap] ∧ SqL K H a (songs.map V.int) ∧ SqL K H b (os.map V.int) ∧ InB songs.length os ∧ os.length ≤ 100 ∧ 0 ≤ gap ∧ ∀ H', Same H H' → Q (.bl (keepsP songs os gap)) H'
theorem fn__law_keeps (T : Tx K mg) : Fn P w K mg base "_law_keeps" 1 (sp_law_keeps K) := by
  obtain ⟨fd, F⟩ := T.d__law_keeps
  refine ⟨_, fd, _, F.ok (CX := CX0) sc__law_keeps (fun vs H Q E h => ?_) (fun cdv A outer s H vs Q E hr h => ?_), T.g__law_keeps, F.kp, F.bindsN fun _ _ _ _ _ _ us hl => match us, hl with | [_, _, _], _ => rfl⟩
  · obtain ⟨a, b, songs, os, gap, rfl, _⟩ := h; rfl
  · obtain ⟨a, b, songs, os, gap, rfl, ha, hb, hi, hl, hg, q⟩ := h
    refine ⟨_, PSs.nox (pss_cons (ps_for PassesOwn.never rfl (show PI _ _ _ (iEnum K _) from pi_enum (by rfl) T.enumerate (pa_cons (pv 1) pa_nil)) (show PG _ _ (gTup K _ _) from pg_tup rfl (pgs_cons (pg_name (i := 3) sc__law_keeps.nd rfl (by first | exact Or.inl rfl | exact Or.inr rfl)) (pgs_cons (pg_name (i := 4) sc__law_keeps.nd rfl (by first | exact Or.inl rfl | exact Or.inr rfl)) pgs_nil)))
      (pss_one (ps_for PassesOwn.never rfl (pi_range2 (by rfl) T.range (pa_cons pe_int (pa_cons (pe_op op_add (pe_callB (call_min2 (by rfl)) (by rfl) T.min (by decide +kernel) (pa_cons (pv 2) (pa_cons (pv 3) pa_nil))) pe_int) pa_nil))) (pg_name (i := 5) sc__law_keeps.nd rfl (by first | exact Or.inl rfl | exact Or.inr rfl))
      (pss_one (ps_if (pt_cmpR op_eq (pe_ix (show IxR _ (rIxL K) from ix_list) (pv 0) (pe_ix (show IxR _ (rIxL K) from ix_list) (pv 1) (pe_op op_sub (pv 3) (pv 5)) (fun _ _ => rfl)) (fun _ _ => rfl)) (pe_ix (show IxR _ (rIxL K) from ix_list) (pv 0) (pv 4) (fun _ _ => rfl)) (nomark _)) (pss_one (ps_ret pe_bl)) pss_nil)))))
      (pss_one (ps_ret pe_bl))), ?_⟩
    have ki := keeps_iff (songs := songs) (os := os) hg hi
    refine ⟨_, rfl, b, _, rfl, hb, for_it (walk_enum (xs := os.map V.int)) (fun i σ H' => ∃ (x3 x4 x5 : Option V), σ = [some (.ref a), some (.ref b), some (.int gap), x3, x4, x5] ∧ Same H H' ∧
      ∀ (i' j' : Nat) (x y : Int), i' < j' → j' < i → os[i']? = some x → os[j']? = some y → atS songs x = atS songs y → gap < (j' : Int) - i') ?_ ?_ ?_ ?_⟩
    · exact ⟨_, _, _, rfl, Same.refl _, fun i' j' x y h1 h2 => by omega⟩
    · rintro i σ H' _ ⟨_, _, _, _, s, _⟩
      exact s.seq hb
    · rintro j v σ H3 H4 hj ⟨x3, x4, x5, rfl, s3, hS⟩ ⟨t, x, y, rfl, nt, rfl, hx, hy⟩
      cases hx
      obtain ⟨o, rfl, ho⟩ := int_at hy
      rw [List.length_map] at hj
      obtain ⟨o0, o1⟩ := hi o (List.mem_of_getElem? ho)
      refine ⟨t, _, rfl, SqT.of upd_same, rfl, _, _, rfl, _, _, rfl, rfl, ?_⟩
      refine to_new nt fun H5 s5 ht => ?_
      have s15 := s3.trans s5
      have em : (if (j : Int) < gap then (j : Int) else gap) + 1 ≤ 101 ∧ 0 ≤ (if (j : Int) < gap then (j : Int) else gap) := by split <;> omega
      have emd : ((if (j : Int) < gap then (j : Int) else gap) + 1 - 1).toNat ≤ j ∧ (((if (j : Int) < gap then (j : Int) else gap) + 1 - 1).toNat : Int) ≤ gap ∧ ∀ n : Nat, 1 ≤ n → n ≤ j → (n : Int) ≤ gap → n - 1 < ((if (j : Int) < gap then (j : Int) else gap) + 1 - 1).toNat := by
        split
        · refine ⟨by omega, by omega, fun n h1 h2 h3 => by omega⟩
        · refine ⟨by omega, by omega, fun n h1 h2 h3 => by omega⟩
      refine ⟨_, rfl, _, rfl, _, _, rfl, _, _, rfl, rfl, _, _, rfl, ⟨by decide, by decide, by omega, by omega⟩, ?_⟩
      generalize ((if (j : Int) < gap then (j : Int) else gap) + 1 - 1).toNat = N at emd ⊢
      refine for_range (lo := 1) (fun k σ H' => ∃ x5 : Option V, σ = [some (.ref a), some (.ref b), some (.int gap), some (.int (j : Nat)), some (.int o), x5] ∧ Same H H' ∧
        ∀ (i' : Nat) (x : Int), i' < j → j - i' ≤ k → os[i']? = some x → atS songs x ≠ atS songs o) ?_ ?_ ?_
      · exact ⟨_, rfl, s15, fun i' x h1 h2 => by omega⟩
      · rintro k σ G hk ⟨y5, rfl, g, hD⟩
        have ejk : (j : Int) - (1 + (k : Int)) = ((j - (k + 1) : Nat) : Int) := by omega
        have hjk : j - (k + 1) < os.length := by omega
        have hx0 : os[j - (k + 1)]? = some os[j - (k + 1)] := List.getElem?_eq_getElem hjk
        obtain ⟨p0, p1⟩ := hi os[j - (k + 1)] (List.getElem_mem hjk)
        have a1 : atI (os.map V.int) ((j : Int) - (1 + (k : Int))) = some (V.int os[j - (k + 1)]) := by
          rw [ejk]
          refine atI_nat ?_
          rw [List.getElem?_map, hx0]; rfl
        refine ⟨_, rfl, _, rfl, _, rfl, _, rfl, _, _, rfl, rfl, b, _, _, _, rfl, rfl, g.seq hb, a1, a, _, _, _, rfl, rfl, g.seq ha, at_int p0 p1, _, rfl, _, rfl, a, _, _, _, rfl, rfl, g.seq ha, at_int o0 o1, rfl, _, rfl, ?_⟩
        by_cases e : songs.getD (os[j - (k + 1)]).toNat 0 = songs.getD o.toNat 0
        · rw [decide_eq_true (congrArg V.int e)]
          have kf : keepsP songs os gap = false := by
            cases z : keepsP songs os gap with
            | false => rfl
            | true =>
              have := ki.mp z (j - (k + 1)) j _ o (by omega) hx0 ho e
              omega
          rw [kf] at q
          exact iteT (q _ g)
        · rw [decide_eq_false (fun z => e (by injection z))]
          refine iteF ⟨_, rfl, g, fun i' x h1 h2 h3 => ?_⟩
          by_cases z : j - i' ≤ k
          · exact hD i' x h1 z h3
          · have : i' = j - (k + 1) := by omega
            subst this
            rw [hx0] at h3
            rw [← Option.some.inj h3]
            exact e
      · rintro σ G ⟨y5, rfl, g, hD⟩
        refine ⟨_, _, _, rfl, g, fun i' j' x y h1 h2 h3 h4 h5 => ?_⟩
        by_cases z : j' < j
        · exact hS i' j' x y h1 z h3 h4 h5
        · have : j' = j := by omega
          subst this
          rw [ho] at h4
          have ey : o = y := Option.some.inj h4
          subst ey
          refine Classical.byContradiction fun ng => ?_
          refine hD i' x h1 ?_ h3 h5
          have := emd.2.2 (j' - i') (by omega) (by omega) (by omega)
          omega
    · rintro σ G ⟨x3, x4, x5, rfl, s, hS⟩
      rw [List.length_map] at hS
      have kt : keepsP songs os gap = true := ki.mpr fun i j x y h1 h2 h3 h4 => hS i j x y h1 (List.getElem?_eq_some_iff.mp h3).1 h2 h3 h4
      rw [kt] at q
      exact q _ s
end
end Song

/-! ### Lg2: the law's own barring (k05, k06) -/
namespace Song
open PySem L2
theorem rise_range : ∀ ns : List Int, ((List.range (ns.length - 1)).map fun i => decide (ns.getD i 0 ≥ ns.getD (i + 1) 0)).any id = !rising ns
  | [] => rfl
  | [_] => rfl
  | a :: b :: r => by
    have ih := rise_range (b :: r)
    unfold rising
    have e : (a :: b :: r).length - 1 = ((b :: r).length - 1) + 1 := by simp
    rw [e, List.range_succ_eq_map, List.map_cons, List.map_map, List.any_cons, Bool.not_and]
    congr 1
    show decide (a ≥ b) = !decide (a < b)
    by_cases h : a < b
    · rw [decide_eq_true h, decide_eq_false (by omega)]; rfl
    · rw [decide_eq_false h, decide_eq_true (by omega)]; rfl
section
variable {P : Program} {w : World} {K : PySem.W.Frag} {mg : Str → Option Value} {base : Heap}
theorem sc__law_bars : FnScope ["_law_songs_here", "_law_gap", "_law_singers", "_law_whole", "_law_rest", "_law_at", "_law_counts", "_law_singer", "_law_count"] ["_law_songs_here", "_law_gap", "_law_singers"] (defScope s__law_bars) := ⟨rfl, rfl, rfl, by decide +kernel, rfl, by decide +kernel, by decide +kernel⟩
theorem fn__law_bars (T : Tx K mg) : Fn P w K mg base "_law_bars" 1 (sp_bars K) := by
  obtain ⟨fd, F⟩ := T.d__law_bars
  refine ⟨_, fd, _, F.ok (CX := CX0) sc__law_bars (fun vs H Q E h => ?_) (fun cdv A outer s H vs Q E hr h => ?_), T.g__law_bars, F.kp, F.bindsN fun _ _ _ _ _ _ us hl => match us, hl with | [_, _, _], _ => rfl⟩
  · obtain ⟨a, b, songs, ss, gap, rfl, _⟩ := h; rfl
  · obtain ⟨a, b, songs, ss, gap, rfl, ha, hl, hg, hb, hsl, q⟩ := h
    refine ⟨_, PSs.nox (pss_cons (ps_asg (pe_tup (pa_cons (pe_op op_fdivW (pe_callB (show CallR _ _ (rLenQ K) from call_len_seq) (by rfl) T.len (by decide +kernel) (pa_cons (pv 0) pa_nil)) (pe_op op_add (pv 1) pe_int)) (pa_cons (pe_op op_mod (pe_callB (show CallR _ _ (rLenQ K) from call_len_seq) (by rfl) T.len (by decide +kernel) (pa_cons (pv 0) pa_nil)) (pe_op op_add (pv 1) pe_int)) pa_nil))) (show PG _ _ (gTup K _ _) from pg_tup rfl (pgs_cons (pg_name (i := 3) sc__law_bars.nd rfl (by first | exact Or.inl rfl | exact Or.inr rfl)) (pgs_cons (pg_name (i := 4) sc__law_bars.nd rfl (by first | exact Or.inl rfl | exact Or.inr rfl)) pgs_nil))))
      (pss_cons (ps_if (PW.pt (pw_or (pt_cmpR (show OpR _ _ (rEqD K) from op_eqD hr.units) (pv 2) (pe_lst pa_nil) (nomark _)) (pw_or1 (pt_val (pe_callB (show CallR _ _ (rAny K) from cr_any (by rfl)) (by rfl) T.any (by decide +kernel) (pa_cons (pe_lc (own := [("_law_at", 5)]) (g := (gName 5)) (tt := tYes) (by rfl) sc__law_bars.nd (pi_range1 (by rfl) T.range (pa_cons (pe_op op_sub (pe_callB (show CallR _ _ (rLenQ K) from call_len_seq) (by rfl) T.len (by decide +kernel) (pa_cons (pv 2) pa_nil)) pe_int) pa_nil)) (blkOk_by (by kernel_rfl)) (fun _ _ _ _ _ => (pg_name (i := 5) sc__law_bars.nd rfl (by first | exact Or.inl rfl | exact Or.inr rfl))) (fun _ _ _ _ _ => pts_nil) (fun _ _ _ _ _ => (pe_cmpR op_ge (pe_ix (show IxR _ (rIxL K) from ix_list) (pv 2) (pv 5) (fun _ _ => rfl)) (pe_ix (show IxR _ (rIxL K) from ix_list) (pv 2) (pe_op op_add (pv 5) pe_int) (fun _ _ => rfl)) (nomark _)))) pa_nil)))))) (pss_one (ps_ret pe_bl)) pss_nil)
      (pss_cons (ps_setLc (i := 6) (own := [("_law_singer", 7)]) (g := (gName 7)) (tt := tYes) (by rfl) sc__law_bars.nd rfl rfl (sw_true rfl rfl rfl (by decide +kernel)) (show PI _ _ _ (iList K _) from pi_list (pv 2)) (blkOk_by (by kernel_rfl)) (fun _ _ _ _ _ => (pg_name (i := 7) sc__law_bars.nd rfl (by first | exact Or.inl rfl | exact Or.inr rfl))) (fun _ _ _ _ _ => pts_nil) (fun _ _ _ _ _ => (show PE _ _ (tBM K _ _ _ _) from pe_bm PySem.F.plainAttrs_list PySem.F.slot_list_count PySem.F.type_list_count (show MtR _ _ (rCntI K) from mt_lcount) (pv 0) (pa_cons (pv 7) pa_nil))))
      (pss_cons (ps_cut (ps_if (PW.pt (pw_and (pt_cmpR op_eq (pe_callB (show CallR _ _ (rLenQ K) from call_len_seq) (by rfl) T.len (by decide +kernel) (pa_cons (pv 2) pa_nil)) pe_int (nomark _)) (pw_and1 (pt_cmpR op_gt (pe_ix (show IxR _ (rIxL K) from ix_list) (pv 6) pe_int (fun _ _ => rfl)) (pe_op op_add (pv 3) (pe_ifExp (pt_cmpR op_gt (pv 4) pe_int (nomark _)) pe_int pe_int)) (nomark _))))) (pss_one (ps_ret pe_bl)) pss_nil))
      (pss_one (ps_ret (pe_and (pe_chain op_lt op_lt pe_int (pv 4) (pe_callB (show CallR _ _ (rLenQ K) from call_len_seq) (by rfl) T.len (by decide +kernel) (pa_cons (pv 2) pa_nil))) (pe_one (pe_callB (show CallR _ _ (rAll K) from cr_all (by rfl)) (by rfl) T.all (by decide +kernel) (pa_cons (pe_lc (own := [("_law_count", 8)]) (g := (gName 8)) (tt := tYes) (by rfl) sc__law_bars.nd (show PI _ _ _ (iList K _) from pi_list (pv 6)) (blkOk_by (by kernel_rfl)) (fun _ _ _ _ _ => (pg_name (i := 8) sc__law_bars.nd rfl (by first | exact Or.inl rfl | exact Or.inr rfl))) (fun _ _ _ _ _ => pts_nil) (fun _ _ _ _ _ => (pe_cmpR op_gt (pv 8) (pv 3) (nomark _)))) pa_nil)))))))))), ?_⟩
    have hg0 := hg.1
    refine ⟨_, rfl, a, _, rfl, .inl ha, _, rfl, _, _, rfl, rfl, _, _, rfl, rfl, ⟨by omega, hg.log⟩, ?_⟩
    refine ⟨_, rfl, a, _, rfl, .inl ha, _, rfl, _, _, rfl, rfl, _, _, rfl, rfl, (show 0 < gap + 1 by omega), ?_⟩
    refine ⟨by show 2 ≤ sizeLine; decide, fun t nt => ?_⟩
    refine to_new nt fun H2 s2 ht => ?_
    rw [List.length_map] at ht
    refine ⟨t, _, rfl, SqT.of ht, rfl, _, _, rfl, _, _, rfl, rfl, ?_⟩
    have hb2 := s2.seq hb
    refine ⟨_, rfl, Nat.zero_le _, fun z nz => ?_⟩
    refine to_new nz fun H3 s3 hz => ?_
    refine ⟨_, _, dp_ints (s3.seq hb2), .lst (SqL.of hz) .nil, (shp_ints _).ok, shp_nil.ok, _, rfl, ?_⟩
    rw [eqv_nil]
    have s13 := s2.trans s3
    by_cases hne : ss = []
    · have e0 : barsP songs gap ss = false := by unfold barsP; rw [if_pos (.inl hne)]
      rw [e0] at q
      rw [show ss.isEmpty = true by rw [hne]; rfl]
      exact iteT (iteT (q _ s13))
    rw [show ss.isEmpty = false by cases hss : ss with | nil => exact absurd hss hne | cons x r => rfl]
    have hb3 := s13.seq hb
    have l0 : 0 < ss.length := List.length_pos_iff.mpr hne
    refine iteF ⟨_, rfl, b, _, rfl, .inl hb3, _, _, rfl, rfl, _, rfl, by rw [List.length_map]; omega, by rw [List.length_map]; omega, fun D nD => ?_⟩
    rw [List.length_map, show ((ss.length : Int) - 1).toNat = ss.length - 1 by omega]
    refine lc_pure walk_range (fun _ _ _ h => h) trivial (fun i => some (V.bl (decide (ss.getD i 0 ≥ ss.getD (i + 1) 0)))) nD (by omega) ?_ ?_
    · rintro k x G1 G2 hk g1 ⟨rfl, rfl⟩ kk kn hkk _
      have hbG := g1.seq hb3
      refine ⟨rfl, yes_of ⟨_, rfl, _, rfl, b, _, _, _, rfl, rfl, hbG, at_int (by omega) (by omega), _, rfl, _, rfl, _, _, rfl, rfl, b, _, _, _, rfl, rfl, hbG, at_int (by omega) (by omega), _, _, rfl, rfl, ?_⟩⟩
      refine hkk _ _ ?_ (Same.refl _)
      rw [show (0 + (k : Int) + 1).toNat = k + 1 by omega, show (0 + (k : Int)).toNat = k by omega]
    · intro H5 s5 hD
      have eD : (List.range (ss.length - 1)).filterMap (fun i => some (V.bl (decide (ss.getD i 0 ≥ ss.getD (i + 1) 0)))) = ((List.range (ss.length - 1)).map fun i => decide (ss.getD i 0 ≥ ss.getD (i + 1) 0)).map V.bl := by
        rw [List.map_map]; exact congrFun List.filterMap_eq_map _
      rw [eD] at hD
      refine ⟨_, _, rfl, SqL.of hD, _, rfl, ?_⟩
      rw [rise_range]
      have s15 := s13.trans s5
      cases hri : rising ss with
      | false =>
        have e0 : barsP songs gap ss = false := by unfold barsP; rw [if_pos (.inr hri)]
        rw [e0] at q
        exact iteT (q _ s15)
      | true =>
        have hb5 := s15.seq hb
        have ha5 := s15.seq ha
        have hn1 : ¬ (ss = [] ∨ rising ss = false) := by rw [hri]; simp [hne]
        have ehd : ss.headD 0 = ss.getD 0 0 := by
          cases ss with
          | nil => exact absurd rfl hne
          | cons x r => rfl
        have fin : ¬ (ss.length = 1 ∧ (songs.count (ss.headD 0) : Int) > most songs gap) → barsP songs gap ss = (decide (0 < rest songs gap ∧ rest songs gap < (ss.length : Int)) && ss.all fun s => decide ((songs.count s : Int) > whole songs gap)) := fun h => by
          unfold barsP
          rw [if_neg hn1, if_neg h]
        have cond : (decide (V.int (ss.length : Nat) = V.int 1)) = decide (ss.length = 1) := by
          by_cases e : ss.length = 1
          · rw [decide_eq_true e, decide_eq_true (by rw [e]; rfl)]
          · rw [decide_eq_false e, decide_eq_false (fun z => e (by injection z; omega))]
        refine iteF ⟨_, rfl, b, rfl, ⟨_, hb5⟩, fun E nE => lc_map (fun x => match x with | .int s => .int (songs.count s : Int) | _ => .non) hb5 nE (by rw [List.length_map]; omega) ?_ ?_ gname_mono⟩
        · intro i x H6 hx s6 k hk
          obtain ⟨s, rfl, hs⟩ := int_at hx
          exact ⟨rfl, _, rfl, .inl ⟨rfl, _, s6.seq ha5⟩, _, rfl, a, songs, s, rfl, rfl, s6.seq ha5, hk _ (Same.refl _)⟩
        intro H6 s6 hE
        have hE : H6 E = some (.lst ((ss.map fun s => (songs.count s : Int)).map V.int)) := by
          rw [hE, List.map_map, List.map_map]; rfl
        have hb6 := s6.seq hb5
        have s16 := s15.trans s6
        refine ⟨fun σ' H' => ¬ (ss.length = 1 ∧ (songs.count (ss.headD 0) : Int) > most songs gap) ∧ H' = H6 ∧ σ' = [some (.ref a), some (.int gap), some (.ref b), some (.int ((songs.length : Int) / (gap + 1))), some (.int ((songs.length : Int) % (gap + 1))), none, some (.ref E), none, none], ?_, ?_⟩
        · refine ⟨_, rfl, b, _, rfl, .inl hb6, rfl, _, rfl, ?_⟩
          rw [List.length_map, cond]
          by_cases h1 : ss.length = 1
          case neg =>
            rw [decide_eq_false h1]
            exact iteF (iteF ⟨fun z => h1 z.1, rfl, rfl⟩)
          rw [decide_eq_true h1]
          have e0 : (ss.map fun s => (songs.count s : Int)).getD (0 : Int).toNat 0 = (songs.count (ss.getD 0 0) : Int) := by
            cases ss with
            | nil => exact absurd rfl hne
            | cons x r => rfl
          refine iteT ⟨_, rfl, E, _, _, _, rfl, rfl, SqL.of hE, at_int (by decide) (by rw [List.length_map]; omega), _, rfl, _, rfl, _, _, rfl, rfl, _, rfl, ?_⟩
          rw [e0]
          have fi : ∀ m : Int, (songs.length : Int) / (gap + 1) + m = most songs gap → (decide ((songs.count (ss.getD 0 0) : Int) > (songs.length : Int) / (gap + 1) + m) = true → Q (.bl true) H6) ∧ (decide ((songs.count (ss.getD 0 0) : Int) > (songs.length : Int) / (gap + 1) + m) = false → ¬ (ss.length = 1 ∧ (songs.count (ss.headD 0) : Int) > most songs gap)) := fun m em => by
            rw [em]
            constructor
            · intro h2
              have e1 : barsP songs gap ss = true := by
                unfold barsP
                rw [if_neg hn1, if_pos ⟨h1, by rw [ehd]; exact of_decide_eq_true h2⟩]
              rw [e1] at q
              exact q _ s16
            · intro h2 z
              exact of_decide_eq_false h2 (by rw [← ehd]; exact z.2)
          have er : rest songs gap = (songs.length : Int) % (gap + 1) := rfl
          by_cases r0 : (songs.length : Int) % (gap + 1) > 0
          · rw [decide_eq_true r0]
            obtain ⟨fi1, fi2⟩ := fi 1 (by unfold most; rw [if_pos (by rw [er]; exact r0)]; rfl)
            refine iteT ⟨_, _, rfl, rfl, _, _, rfl, rfl, _, rfl, ?_⟩
            cases hdd : decide ((songs.count (ss.getD 0 0) : Int) > (songs.length : Int) / (gap + 1) + 1) with
            | true => exact iteT (fi1 hdd)
            | false => exact iteF ⟨fi2 hdd, rfl, rfl⟩
          · rw [decide_eq_false r0]
            obtain ⟨fi1, fi2⟩ := fi 0 (by unfold most; rw [if_neg (by rw [er]; exact r0)]; rfl)
            refine iteF ⟨_, _, rfl, rfl, _, _, rfl, rfl, _, rfl, ?_⟩
            cases hdd : decide ((songs.count (ss.getD 0 0) : Int) > (songs.length : Int) / (gap + 1) + 0) with
            | true => exact iteT (fi1 hdd)
            | false => exact iteF ⟨fi2 hdd, rfl, rfl⟩
        · rintro σ' H' ⟨hno, rfl, rfl⟩
          rw [fin hno] at q
          refine ⟨_, rfl, _, _, rfl, rfl, _, rfl, ?_⟩
          by_cases r0 : 0 < rest songs gap
          case neg =>
            rw [decide_eq_false (show ¬ (0 < (songs.length : Int) % (gap + 1)) from r0)]
            rw [decide_eq_false (fun z => r0 z.1)] at q
            exact iteF ⟨_, rfl, iteF (q _ s16)⟩
          rw [decide_eq_true (show (0 < (songs.length : Int) % (gap + 1)) from r0)]
          refine iteT ⟨_, rfl, b, _, rfl, .inl hb6, _, _, rfl, rfl, _, rfl, ?_⟩
          rw [List.length_map]
          by_cases r1 : rest songs gap < (ss.length : Int)
          case neg =>
            rw [decide_eq_false (show ¬ ((songs.length : Int) % (gap + 1) < (ss.length : Int)) from r1)]
            rw [decide_eq_false (fun z => r1 z.2)] at q
            exact iteF (q _ s16)
          rw [decide_eq_true (show ((songs.length : Int) % (gap + 1) < (ss.length : Int)) from r1)]
          rw [decide_eq_true ⟨r0, r1⟩] at q
          refine iteT ⟨_, rfl, E, rfl, ⟨_, SqL.of hE⟩, fun D2 nD2 => lc_map (fun x => match x with | .int c => .bl (decide (c > whole songs gap)) | _ => .non) (SqL.of hE) nD2 (by rw [List.length_map, List.length_map]; omega) ?_ ?_ gname_mono⟩
          · intro i x H7 hx s7 k hk
            obtain ⟨c, rfl, hc⟩ := int_at hx
            exact ⟨rfl, _, rfl, _, rfl, _, _, rfl, rfl, hk _ (Same.refl _)⟩
          · intro H7 s7 hD2
            refine ⟨_, ss.map fun s => decide ((songs.count s : Int) > whole songs gap), rfl, SqL.of (by rw [hD2, List.map_map, List.map_map, List.map_map]; rfl), ?_⟩
            rw [List.all_map]
            exact q _ (s16.trans s7)
end
end Song

/-! ### Lg5: what is due of an answer, whether a row can be gone on with (k05) -/
namespace Song
open PySem L2
section
variable {P : Program} {w : World} {K : PySem.W.Frag} {mg : Str → Option Value} {base : Heap}
theorem sc__law_due : FnScope ["_law_songs_here", "_law_gap", "_law_found"] ["_law_songs_here", "_law_gap", "_law_found"] (defScope s__law_due) := ⟨rfl, rfl, rfl, by decide +kernel, rfl, by decide +kernel, by decide +kernel⟩
def sp_due (K : PySem.W.Frag) : Sp := fun vs H Q _ => ∃ (a p l : Addr) (songs : List Int) (gap : Int), vs = [.ref a, .int gap, .ref p] ∧ SqL K H a (songs.map V.int) ∧ songs.length ≤ 60 ∧ GapOk gap ∧
  ((∃ os, SpAt K H p l os ∧ os.length ≤ 100 ∧ ∀ H', Same H H' → Q (.bl (showsSp songs os gap)) H') ∨ ∃ ss, BaAt K H p l ss ∧ ss.length ≤ 100 ∧ ∀ H', Same H H' → Q (.bl (barsP songs gap ss)) H')
theorem fn__law_due (T : Tx K mg) : Fn P w K mg base "_law_due" 2 (sp_due K) := by
  obtain ⟨fd, F⟩ := T.d__law_due
  refine ⟨_, fd, _, F.ok (CX := CX0) sc__law_due (fun vs H Q E h => ?_) (fun cdv A outer s H vs Q E hr h => ?_), T.g__law_due, F.kp, F.bindsN fun _ _ _ _ _ _ us hl => match us, hl with | [_, _, _], _ => rfl⟩
  · obtain ⟨a, p, l, songs, gap, rfl, _⟩ := h; rfl
  · obtain ⟨a, p, l, songs, gap, rfl, ha, hl, hg, h⟩ := h
    refine ⟨_, PSs.nox (pss_cons (ps_if (pt_val (pe_callB (show CallR _ _ (rIsi K) from call_isi) (by rfl) T.isinstance (by decide +kernel) (pa_cons (pv 2) (pa_cons (pe_gc T.g_Spaced (by rfl)) pa_nil)))) (pss_one (ps_ret (pe_and (pe_cmpR (show OpR _ _ (rEqD K) from op_eqD hr.units) (pe_callB (show CallR _ _ (rSortedI K) from cr_sortedI) (by rfl) T.sorted (by decide +kernel) (pa_cons (show PE _ _ (tFld K _ _) from pe_fld (pv 2) rfl) pa_nil)) (pe_listRg (by rfl) (by rfl) T.list (prg_1 (by rfl) T.range (pe_callB (show CallR _ _ (rLenQ K) from call_len_seq) (by rfl) T.len (by decide +kernel) (pa_cons (pv 0) pa_nil)))) (nomark _)) (pe_one (pe_fn (fn__law_keeps T) (hr.mono (by first | decide | omega)) (by rfl) (pa_cons (pv 0) (pa_cons (show PE _ _ (tFld K _ _) from pe_fld (pv 2) rfl) (pa_cons (pv 1) pa_nil)))))))) pss_nil)
      (pss_one (ps_ret (pe_fn (fn__law_bars T) (hr.mono (by first | decide | omega)) (by rfl) (pa_cons (pv 0) (pa_cons (pv 1) (pa_cons (show PE _ _ (tFld K _ _) from pe_fld (pv 2) rfl) pa_nil))))))), ?_⟩
    rcases h with ⟨os, ⟨⟨dx, hp⟩, hlo⟩, hol, q⟩ | ⟨ss, ⟨⟨dx, hp⟩, hlo⟩, hsl, q⟩
    · refine ⟨_, rfl, _, _, _, _, _, rfl, .own _, ty_ins hp T.cls_Spaced T.ic_Spaced, T.ki_Spaced_Spaced, _, rfl, iteT ?_⟩
      refine ⟨_, rfl, p, _, dx, _, _, rfl, hp, T.cls_Spaced, T.na_Spaced_order, orF_order _, l, os, rfl, SqL.of hlo, fun ns z pm pw nz => ?_⟩
      refine to_new nz fun H1 s1 hz => ?_
      refine ⟨_, rfl, a, _, rfl, .inl (s1.seq ha), _, rfl, ⟨by decide, by decide, by omega, by rw [List.length_map]; omega, by rw [List.length_map]; omega⟩, fun r nr => ?_⟩
      rw [List.length_map, rg0]
      refine to_new nr fun H2 s2 hr2 => ?_
      refine ⟨_, _, dp_ints (SqL.of (s2 _ _ hz)), dp_ints (SqL.of hr2), (shp_ints _).ok, (shp_ints _).ok, ?_⟩
      rw [eqv_intsD, perm_dec pm pw]
      have s12 := s1.trans s2
      unfold showsSp at q
      cases hP : os.isPerm (upto songs.length) with
      | false =>
        rw [hP] at q
        exact ⟨_, rfl, iteF (q _ s12)⟩
      | true =>
        rw [hP] at q
        have pe : os.Perm (upto songs.length) := List.isPerm_iff.mp hP
        exact ⟨_, rfl, iteT ⟨_, rfl, _, rfl, p, _, dx, _, _, rfl, s12 _ _ hp, T.cls_Spaced, T.na_Spaced_order, orF_order _, _, rfl, a, l, songs, os, gap, rfl, s12.seq ha, SqL.of (s12 _ _ hlo), perm_in pe, hol, hg.1, fun H3 s3 => q _ (s12.trans s3)⟩⟩
    · refine ⟨_, rfl, _, _, _, _, _, rfl, .own _, ty_ins hp T.cls_Barred T.ic_Barred, T.ki_Barred_Spaced, _, rfl, iteF ?_⟩
      exact ⟨_, rfl, _, rfl, _, rfl, p, _, dx, _, _, rfl, hp, T.cls_Barred, T.na_Barred_singers, siF_singers _, a, l, songs, ss, gap, rfl, ha, by omega, hg, SqL.of hlo, by omega, fun H1 s1 => q _ s1⟩
theorem sc__law_can : FnScope ["_law_songs_here", "_law_gap", "_law_row", "_law_place"] ["_law_songs_here", "_law_gap", "_law_row"] (defScope s__law_can) := ⟨rfl, rfl, rfl, by decide +kernel, rfl, by decide +kernel, by decide +kernel⟩
def sp_can (K : PySem.W.Frag) (r : Nat) : Sp := fun vs H Q _ => ∃ (a b : Addr) (songs row : List Int) (gap : Int), vs = [.ref a, .int gap, .ref b] ∧ SqL K H a (songs.map V.int) ∧ songs.length ≤ 60 ∧ H b = some (.lst (row.map V.int)) ∧ row.length + r = songs.length ∧ InB songs.length row ∧ 0 ≤ gap ∧
  ∀ H', Same H H' → Q (.bl (canP songs gap r row)) H'
theorem fn_can (T : Tx K mg) : ∀ r : Nat, Fn P w K mg base "_law_can" (r + 2) (sp_can K r) := by
  intro r
  induction r using Nat.strongRecOn with
  | _ r ih =>
  obtain ⟨fd, F⟩ := T.d__law_can
  refine ⟨_, fd, _, F.ok (CX := CX0) sc__law_can (fun vs H Q E h => ?_) (fun cdv A outer s H vs Q E hr h => ?_), T.g__law_can, F.kp, F.bindsN fun _ _ _ _ _ _ us hl => match us, hl with | [_, _, _], _ => rfl⟩
  · obtain ⟨a, b, songs, row, gap, rfl, _⟩ := h; rfl
  · obtain ⟨a, b, songs, row, gap, rfl, ha, hl, hb, hrl, hi, hg, q⟩ := h
    refine ⟨_, PSs.nox (pss_cons (ps_if (pt_cmpR op_eq (pe_callB (show CallR _ _ (rLenQ K) from call_len_seq) (by rfl) T.len (by decide +kernel) (pa_cons (pv 2) pa_nil)) (pe_callB (show CallR _ _ (rLenQ K) from call_len_seq) (by rfl) T.len (by decide +kernel) (pa_cons (pv 0) pa_nil)) (nomark _)) (pss_one (ps_ret pe_bl)) pss_nil)
      (pss_cons (ps_for PassesOwn.never rfl (pi_range1 (by rfl) T.range (pa_cons (pe_callB (show CallR _ _ (rLenQ K) from call_len_seq) (by rfl) T.len (by decide +kernel) (pa_cons (pv 0) pa_nil)) pa_nil)) (pg_name (i := 3) sc__law_can.nd rfl (by first | exact Or.inl rfl | exact Or.inr rfl))
      (pss_one (ps_if (PW.pt (pw_and (pt_cmpR (show OpR _ _ (rIn K true) from op_notIn_seq) (pv 3) (pv 2) (by rfl)) (pw_and (pt_val (pe_fn (fn__law_keeps T) (hr.mono (by first | decide | omega)) (by rfl) (pa_cons (pv 0) (pa_cons (pe_op op_cat (pv 2) (pe_lst (pa_cons (pv 3) pa_nil))) (pa_cons (pv 1) pa_nil))))) (pw_and1 (pt_val (pe_rec ih hr (by rfl) (pa_cons (pv 0) (pa_cons (pv 1) (pa_cons (pe_op op_cat (pv 2) (pe_lst (pa_cons (pv 3) pa_nil))) pa_nil))))))))) (pss_one (ps_ret pe_bl)) pss_nil)))
      (pss_one (ps_ret pe_bl)))), ?_⟩
    refine ⟨_, rfl, b, _, rfl, .inl (SqL.of hb), _, rfl, a, _, rfl, .inl ha, rfl, _, rfl, ?_⟩
    rw [List.length_map, List.length_map]
    cases r with
    | zero =>
      rw [decide_eq_true (by rw [show row.length = songs.length by omega])]
      have e : canP songs gap 0 row = true := decide_eq_true (by omega)
      rw [e] at q
      exact iteT (q _ (Same.refl _))
    | succ r =>
      rw [decide_eq_false (fun z => by injection z with z; omega)]
      have e : canP songs gap (r + 1) row = (upto songs.length).any fun p => decide (p ∉ row) && (keepsP songs (row ++ [p]) gap && canP songs gap r (row ++ [p])) := by
        show (if row.length = songs.length then _ else _) = _
        rw [if_neg (by omega)]
      rw [e] at q
      refine iteF ⟨_, rfl, a, _, rfl, .inl ha, _, rfl, by rw [List.length_map]; omega, by rw [List.length_map]; omega, ?_⟩
      rw [List.length_map, show ((songs.length : Int)).toNat = songs.length by omega]
      refine for_range (lo := 0) (fun i σ H' => ∃ x3 : Option V, σ = [some (.ref a), some (.int gap), some (.ref b), x3] ∧ Same H H' ∧ ∀ p : Nat, p < i → (decide ((p : Int) ∉ row) && (keepsP songs (row ++ [(p : Int)]) gap && canP songs gap r (row ++ [(p : Int)]))) = false) ?_ ?_ ?_
      · exact ⟨_, rfl, Same.refl _, fun p hp => by omega⟩
      · rintro i σ G hin ⟨x3, rfl, g, hno⟩
        have next : (decide ((i : Int) ∉ row) && (keepsP songs (row ++ [(i : Int)]) gap && canP songs gap r (row ++ [(i : Int)]))) = false → ∀ G', Same H G' → ∃ x3 : Option V, [some (V.ref a), some (.int gap), some (.ref b), some (.int (i : Int))] = [some (.ref a), some (.int gap), some (.ref b), x3] ∧ Same H G' ∧ ∀ p : Nat, p < i + 1 → (decide ((p : Int) ∉ row) && (keepsP songs (row ++ [(p : Int)]) gap && canP songs gap r (row ++ [(p : Int)]))) = false := fun h G' g' =>
          ⟨_, rfl, g', fun p hp => by
            by_cases c : p < i
            · exact hno p c
            · rw [show p = i by omega]; exact h⟩
        refine ⟨_, rfl, _, rfl, b, _, rfl, .inl (SqL.of (g _ _ hb)), rfl, flat_ints _, _, rfl, ?_⟩
        rw [inV_ints, Int.zero_add]
        by_cases hm : (i : Int) ∈ row
        · rw [decide_eq_true hm]
          exact iteF (iteF (next (by rw [decide_eq_false (fun z => z hm)]; rfl) G g))
        rw [decide_eq_false hm]
        have hi2 : InB songs.length (row ++ [(i : Int)]) := fun x hx => by
          rcases List.mem_append.mp hx with z | z
          · exact hi x z
          · rw [List.mem_singleton.mp z]; omega
        refine iteT ⟨_, rfl, _, rfl, _, rfl, by show 1 ≤ sizeLine; decide, fun z nz => ?_⟩
        refine to_new nz fun G1 g1 hz => ?_
        refine ⟨b, z, row.map V.int, [(i : Int)].map V.int, rfl, rfl, g1 _ _ (g _ _ hb), hz, ?_, fun p np => ?_⟩
        · rw [List.length_map, List.length_map]
          have := lt_line (n := row.length + 1) (by omega)
          show row.length + 1 ≤ sizeLine
          omega
        rw [← List.map_append]
        refine to_new np fun G2 g2 hp => ?_
        have gg := g.trans (g1.trans g2)
        refine ⟨_, rfl, a, p, songs, row ++ [(i : Int)], gap, rfl, gg.seq ha, SqL.of hp, hi2, by rw [List.length_append, List.length_singleton]; omega, hg, fun G3 g3 => ⟨_, rfl, ?_⟩⟩
        cases hk : keepsP songs (row ++ [(i : Int)]) gap with
        | false => exact iteF (iteF (next (by rw [hk, Bool.false_and, Bool.and_false]) G3 (gg.trans g3)))
        | true =>
          have g03 := gg.trans g3
          refine iteT ⟨r, by omega, _, rfl, _, rfl, _, rfl, _, rfl, by show 1 ≤ sizeLine; decide, fun z2 nz2 => ?_⟩
          refine to_new nz2 fun G4 g4 hz2 => ?_
          refine ⟨b, z2, row.map V.int, [(i : Int)].map V.int, rfl, rfl, g4 _ _ (g03 _ _ hb), hz2, ?_, fun p2 np2 => ?_⟩
          · rw [List.length_map, List.length_map]
            have := lt_line (n := row.length + 1) (by omega)
            show row.length + 1 ≤ sizeLine
            omega
          rw [← List.map_append]
          refine to_new np2 fun G5 g5 hp2 => ?_
          have g05 := g03.trans (g4.trans g5)
          refine ⟨a, p2, songs, row ++ [(i : Int)], gap, rfl, g05.seq ha, hl, hp2, by rw [List.length_append, List.length_singleton]; omega, hi2, hg, fun G6 g6 => ⟨_, rfl, ?_⟩⟩
          cases hc : canP songs gap r (row ++ [(i : Int)]) with
          | false => exact iteF (next (by rw [hc, Bool.and_false, Bool.and_false]) G6 (g05.trans g6))
          | true =>
            have e2 : ((upto songs.length).any fun p => decide (p ∉ row) && (keepsP songs (row ++ [p]) gap && canP songs gap r (row ++ [p]))) = true := by
              refine List.any_eq_true.mpr ⟨(i : Int), mem_upto.mpr (by omega), ?_⟩
              rw [decide_eq_true hm, hk, hc]; rfl
            rw [e2] at q
            exact iteT (q _ (g05.trans g6))
      · rintro σ G ⟨x3, rfl, g, hno⟩
        have e2 : ((upto songs.length).any fun p => decide (p ∉ row) && (keepsP songs (row ++ [p]) gap && canP songs gap r (row ++ [p]))) = false := by
          refine List.any_eq_false.mpr fun p hp => ?_
          obtain ⟨p0, p1⟩ := mem_upto.mp hp
          obtain ⟨k, rfl⟩ := Int.eq_ofNat_of_zero_le p0
          rw [hno k (by omega)]; decide
        rw [e2] at q
        exact q _ g
theorem sc__law_right : FnScope ["_law_songs_here", "_law_gap", "_law_other", "_law_handed", "_law_again", "_law_found", "_law_sorts", "_law_some", "_law_wide"] ["_law_songs_here", "_law_gap", "_law_other"] (defScope s__law_right) := ⟨rfl, rfl, rfl, by decide +kernel, rfl, by decide +kernel, by decide +kernel⟩
/-- [True, False] or the other way about -/
theorem sorts_in (b : Bool) : ([PyData.list [.bool true, .bool false], .list [.bool false, .bool true]].any fun z => PyData.eqv z (.list [.bool b, .bool (!b)])) = true := by cases b <;> decide
theorem shp_bb (a b : Bool) : Shp 2 (.list [.bool a, .bool b]) := shp_list fun x hx => by
  simp only [List.mem_cons, List.not_mem_nil, or_false] at hx
  rcases hx with rfl | rfl <;> exact ⟨by rw [PyData.canLay0], by rw [PyData.depth] <;> omega⟩
theorem shp_tt : Shp 3 (.tuple [.list [.bool true, .bool false], .list [.bool false, .bool true]]) := shp_tuple fun x hx => by
  simp only [List.mem_cons, List.not_mem_nil, or_false] at hx
  rcases hx with rfl | rfl <;> exact shp_bb _ _
theorem told_shows {songs : List Int} {gap : Int} (hg : 0 ≤ gap) (hs : SgOk songs) (hn : barring songs gap = none) : showsSp songs (orderFor songs gap) gap = true := by
  obtain ⟨pm, spc⟩ := order_ok hg hs hn
  unfold showsSp
  rw [List.isPerm_iff.mpr pm, (keeps_iff hg (perm_in pm)).mpr spc]; rfl
theorem told_long {songs : List Int} {gap : Int} (hg : 0 ≤ gap) (hs : SgOk songs) (hn : barring songs gap = none) : showsSp songs (orderFor songs gap ++ [0]) gap = false := by
  obtain ⟨pm, spc⟩ := order_ok hg hs hn
  unfold showsSp
  rw [shows_long (gap := gap) pm]; rfl
def sp_right (K : PySem.W.Frag) : Sp := fun vs H Q _ => ∃ (a o : Addr) (songs other : List Int) (gap : Int), vs = [.ref a, .int gap, .ref o] ∧ SqL K H a (songs.map V.int) ∧ SongsOk songs ∧ SqL K H o (other.map V.int) ∧ SongsOk other ∧ 0 ≤ gap ∧ gap < 2 ^ 90 ∧ ∀ H', Same H H' → Q (.bl true) H'
theorem fn__law_right (T : Tx K mg) : Fn P w K mg base "_law_right" 8 (sp_right K) := by
  obtain ⟨fd, F⟩ := T.d__law_right
  refine ⟨_, fd, _, F.ok (CX := CX0) sc__law_right (fun vs H Q E h => ?_) (fun cdv A outer s H vs Q E hr h => ?_), T.g__law_right, F.kp, F.bindsN fun _ _ _ _ _ _ us hl => match us, hl with | [_, _, _], _ => rfl⟩
  · obtain ⟨a, o, songs, other, gap, rfl, _⟩ := h; rfl
  · obtain ⟨a, o, songs, other, gap, rfl, ha, hS, ho, hO, g0, g90, q⟩ := h
    refine ⟨_, PSs.nox (pss_cons (ps_set (i := 3) sc__law_right.nd rfl (by first | exact Or.inl rfl | exact Or.inr rfl) (pe_callTy (show CallR _ _ (rListO K) from call_list_of) (by rfl) T.list (by decide +kernel) (pa_cons (pv 0) pa_nil)))
      (pss_cons (ps_for PassesOwn.never rfl (pi_range1 (by rfl) T.range (pa_cons pe_int pa_nil)) (pg_name (i := 4) sc__law_right.nd rfl (by first | exact Or.inl rfl | exact Or.inr rfl))
      (pss_cons (ps_cut (ps_set (i := 5) sc__law_right.nd rfl (by first | exact Or.inl rfl | exact Or.inr rfl) (pe_fn (fn_spaced T) (hr.mono (by first | decide | omega)) (by rfl) (pa_cons (pv 3) (pa_cons (pv 1) pa_nil)))))
      (pss_cons (ps_set (i := 6) sc__law_right.nd rfl (by first | exact Or.inl rfl | exact Or.inr rfl) (pe_lst (pa_cons (pe_callB (show CallR _ _ (rIsi K) from call_isi) (by rfl) T.isinstance (by decide +kernel) (pa_cons (pv 5) (pa_cons (pe_gc T.g_Spaced (by rfl)) pa_nil))) (pa_cons (pe_callB (show CallR _ _ (rIsi K) from call_isi) (by rfl) T.isinstance (by decide +kernel) (pa_cons (pv 5) (pa_cons (pe_gc T.g_Barred (by rfl)) pa_nil))) pa_nil))))
      (pss_cons (ps_if (PW.pt (pw_or (pt_not (pt_val (pe_callB (show CallR _ _ (rIsi K) from call_isi) (by rfl) T.isinstance (by decide +kernel) (pa_cons (pv 5) (pa_cons (pe_gc T.g_Answer (by rfl)) pa_nil))))) (pw_or (pt_cmpR (show OpR _ _ (rNotInT K) from op_notInT hr.units65) (pv 6) (pe_tup (pa_cons (pe_lst (pa_cons pe_bl (pa_cons pe_bl pa_nil))) (pa_cons (pe_lst (pa_cons pe_bl (pa_cons pe_bl pa_nil))) pa_nil))) (by rfl)) (pw_or1 (pt_cmpR (show OpR _ _ (rNeD K) from op_neD hr.units) (pv 3) (pv 0) (nomark _)))))) (pss_one (ps_ret pe_bl)) pss_nil)
      (pss_cons (ps_if (PW.pt (pw_or (pt_val (pe_callB (show CallR _ _ (rIsi K) from call_isi) (by rfl) T.isinstance (by decide +kernel) (pa_cons (pv 5) (pa_cons (pe_gc T.g_Right (by rfl)) pa_nil)))) (pw_or (pt_val (pe_callB (show CallR _ _ (rIsi K) from call_isi) (by rfl) T.isinstance (by decide +kernel) (pa_cons (pv 5) (pa_cons (pe_gc T.g_Wrong (by rfl)) pa_nil)))) (pw_or1 (pt_not (pt_val (pe_fn (fn__law_due T) (hr.mono (by first | decide | omega)) (by rfl) (pa_cons (pv 0) (pa_cons (pv 1) (pa_cons (pv 5) pa_nil)))))))))) (pss_one (ps_ret pe_bl)) pss_nil)
      (pss_cons (ps_cut (ps_if (PW.pt (pw_and (pt_cmpR op_lt (pe_callB (show CallR _ _ (rLenQ K) from call_len_seq) (by rfl) T.len (by decide +kernel) (pa_cons (pv 0) pa_nil)) pe_int (nomark _)) (pw_and1 (pt_cmpR op_ne (pe_ix (show IxR _ (rIxL K) from ix_list) (pv 6) pe_int (fun _ _ => rfl)) (pe_rec (r := 6) (fun r _ => fn_can T r) (hr.mono (by first | decide | omega)) (by rfl) (pa_cons (pv 0) (pa_cons (pv 1) (pa_cons (pe_lst pa_nil) pa_nil)))) (nomark _))))) (pss_one (ps_ret pe_bl)) pss_nil))
      (pss_cons (ps_if (pt_cmpR op_notBl (pe_alt (pe_me (me_Spaced_shows T) (hr.mono (by first | decide | omega)) (pv 5) (pa_cons (pv 0) (pa_cons (pv 1) pa_nil))) (pe_me (me_Barred_shows T) (hr.mono (by first | decide | omega)) (pv 5) (pa_cons (pv 0) (pa_cons (pv 1) pa_nil)))) pe_bl (nomark _)) (pss_one (ps_ret pe_bl)) pss_nil)
      (pss_cons (ps_for PassesOwn.never rfl (show PI _ _ _ (iTup K _) from pi_tup (pe_tup (pa_cons (pe_tup (pa_cons (pv 0) (pa_cons (pe_op op_add (pv 1) pe_int) pa_nil))) (pa_cons (pe_tup (pa_cons (pv 2) (pa_cons (pv 1) pa_nil))) (pa_cons (pe_tup (pa_cons (pv 0) (pa_cons (pe_callB (call_max2 (by rfl)) (by rfl) T.max (by decide +kernel) (pa_cons pe_int (pa_cons (pe_op op_sub (pv 1) pe_int) pa_nil))) pa_nil))) pa_nil))))) (show PG _ _ (gTup K _ _) from pg_tup rfl (pgs_cons (pg_name (i := 7) sc__law_right.nd rfl (by first | exact Or.inl rfl | exact Or.inr rfl)) (pgs_cons (pg_name (i := 8) sc__law_right.nd rfl (by first | exact Or.inl rfl | exact Or.inr rfl)) pgs_nil)))
      (pss_one (ps_if (pt_not (pt_val (pe_fn (fn__law_says T) (hr.mono (by first | decide | omega)) (by rfl) (pa_cons (pe_alt (pe_me (me_Spaced_shows T) (hr.mono (by first | decide | omega)) (pv 5) (pa_cons (pv 7) (pa_cons (pv 8) pa_nil))) (pe_me (me_Barred_shows T) (hr.mono (by first | decide | omega)) (pv 5) (pa_cons (pv 7) (pa_cons (pv 8) pa_nil)))) (pa_cons (pe_fn (fn__law_due T) (hr.mono (by first | decide | omega)) (by rfl) (pa_cons (pv 7) (pa_cons (pv 8) (pa_cons (pv 5) pa_nil)))) pa_nil))))) (pss_one (ps_ret pe_bl)) pss_nil)))
      (pss_cons (ps_if (pt_val (pe_ix (show IxR _ (rIxL K) from ix_list) (pv 6) pe_int (fun _ _ => rfl))) (pss_one (ps_expr (show PE _ _ (tBM K _ _ _ _) from pe_bm PySem.F.plainAttrs_list PySem.F.slot_list_append PySem.F.type_list_append mt_append (show PE _ _ (tFld K _ _) from pe_fld (pv 5) rfl) (pa_cons pe_int pa_nil)))) (pss_one (ps_expr (show PE _ _ (tBM K _ _ _ _) from pe_bm PySem.F.plainAttrs_list PySem.F.slot_list_append PySem.F.type_list_append mt_append (show PE _ _ (tFld K _ _) from pe_fld (pv 5) rfl) (pa_cons pe_int pa_nil)))))
      (pss_one (ps_if (pt_cmpR op_notBl (pe_alt (pe_me (me_Spaced_shows T) (hr.mono (by first | decide | omega)) (pv 5) (pa_cons (pv 0) (pa_cons (pv 1) pa_nil))) (pe_me (me_Barred_shows T) (hr.mono (by first | decide | omega)) (pv 5) (pa_cons (pv 0) (pa_cons (pv 1) pa_nil)))) pe_bl (nomark _)) (pss_one (ps_ret pe_bl)) pss_nil)))))))))))
      (pss_one (ps_ret pe_bl)))), ?_⟩
    have hl := hS.1
    have hs := hS.2
    have hol := hO.1
    have gok : GapOk gap := ⟨g0, by omega⟩
    refine ⟨_, rfl, a, _, rfl, .inl ha, fun hd nhd => ?_⟩
    refine to_new nhd fun H1 s1 hhd => ?_
    refine ⟨2, rfl, by decide, by decide, for_range (lo := 0) (fun i σ H' => ∃ x4 x5 x6 x7 x8 : Option V, σ = [some (.ref a), some (.int gap), some (.ref o), some (.ref hd), x4, x5, x6, x7, x8] ∧ Same H1 H') ?_ ?_ ?_⟩
    · exact ⟨_, _, _, _, _, rfl, Same.refl _⟩
    · rintro i σ H2 hi ⟨x4, x5, x6, x7, x8, rfl, s2⟩
      refine ⟨fun σ' H' => ∃ (p l : Addr), σ' = [some (.ref a), some (.int gap), some (.ref o), some (.ref hd), some (.int (0 + (i : Int))), some (.ref p), x6, x7, x8] ∧ Same H2 H' ∧ H2 p = none ∧ H2 l = none ∧ ((barring songs gap = none ∧ SpAt K H' p l (orderFor songs gap)) ∨ ∃ ss, barring songs gap = some ss ∧ BaAt K H' p l ss), ?_, ?_⟩
      · exact ⟨_, rfl, _, rfl, hd, songs, gap, rfl, SqL.of (s2 _ _ hhd), hS, gok, fun hn p l H3 np nl s3 hsp => ⟨p, l, rfl, s3, np, nl, .inl ⟨hn, hsp⟩⟩, fun ss hn p l H3 np nl s3 hba => ⟨p, l, rfl, s3, np, nl, .inr ⟨ss, hn, hba⟩⟩⟩
      rintro σ' H3 ⟨p, l, rfl, s3, np, nl, hT⟩
      have s13 := s2.trans s3
      have s03 := s1.trans s13
      rcases hT with ⟨hn, hat⟩ | ⟨ss, hn, hat⟩
      · obtain ⟨⟨dx, hp⟩, hlo⟩ := hat
        have hosl : (orderFor songs gap).length ≤ 60 := by rw [orderFor_len]; omega
        refine ⟨_, rfl, _, _, _, _, _, rfl, .own _, ty_ins hp T.cls_Spaced T.ic_Spaced, T.ki_Spaced_Spaced, _, rfl, _, _, _, _, _, rfl, .own _, ty_ins hp T.cls_Spaced T.ic_Spaced, T.ki_Spaced_Barred, by show 2 ≤ sizeLine; decide, fun c nc => ?_⟩
        refine to_new nc fun H4 s4 hc => ?_
        have hp4 := s4 _ _ hp
        refine ⟨_, rfl, _, _, _, _, _, rfl, .own _, ty_ins hp4 T.cls_Spaced T.ic_Spaced, T.ki_Spaced_Answer, _, rfl, iteF ?_⟩
        refine ⟨_, rfl, by show 2 ≤ sizeLine; decide, fun d1 nd1 => ?_⟩
        refine to_new nd1 fun H5 s5 hd1 => ?_
        refine ⟨by show 2 ≤ sizeLine; decide, fun d2 nd2 => ?_⟩
        refine to_new nd2 fun H6 s6 hd2 => ?_
        refine ⟨by show 2 ≤ sizeLine; decide, fun d3 nd3 => ?_⟩
        refine to_new nd3 fun H7 s7 hd3 => ?_
        have t7 := s5.trans (s6.trans s7)
        refine ⟨_, _, .lst (SqL.of (t7 _ _ hc)) (.cons (.bl _) (.cons (.bl _) .nil)), .tup (SqT.of hd3) (.cons (.lst (SqL.of ((s6.trans s7) _ _ hd1)) (.cons (.bl _) (.cons (.bl _) .nil))) (.cons (.lst (SqL.of (s7 _ _ hd2)) (.cons (.bl _) (.cons (.bl _) .nil))) .nil)), (shp_bb _ _).ok, shp_tt.ok, _, rfl, ?_⟩
        rw [show ([PyData.list [.bool true, .bool false], .list [.bool false, .bool true]].any fun z => PyData.eqv z (.list [.bool true, .bool false])) = true from sorts_in true]
        have u7 := s13.trans (s4.trans t7)
        have v7 := s1.trans u7
        refine iteF ⟨_, rfl, _, rfl, _, _, dp_ints (SqL.of (u7 _ _ hhd)), dp_ints (v7.seq ha), (shp_ints _).ok, (shp_ints _).ok, _, rfl, ?_⟩
        rw [eqv_ints]
        refine iteF ?_
        have hp7 := t7 _ _ hp4
        have hlo7 := t7 _ _ (s4 _ _ hlo)
        refine ⟨_, rfl, _, _, _, _, _, rfl, .own _, ty_ins hp7 T.cls_Spaced T.ic_Spaced, T.ki_Spaced_Right, _, rfl, iteF ?_⟩
        refine ⟨_, rfl, _, _, _, _, _, rfl, .own _, ty_ins hp7 T.cls_Spaced T.ic_Spaced, T.ki_Spaced_Wrong, _, rfl, iteF ?_⟩
        refine ⟨_, rfl, _, rfl, _, rfl, a, p, l, songs, gap, rfl, v7.seq ha, by omega, gok, .inl ⟨(orderFor songs gap), ⟨⟨dx, hp7⟩, hlo7⟩, by omega, fun H8 s8 => ⟨_, rfl, ?_⟩⟩⟩
        rw [told_shows g0 hs hn]
        have v8 := v7.trans s8
        have hc8 := s8 _ _ (t7 _ _ hc)
        refine iteF ⟨fun σ' H' => σ' = [some (.ref a), some (.int gap), some (.ref o), some (.ref hd), some (.int (0 + (i : Int))), some (.ref p), some (.ref c), x7, x8] ∧ Same H8 H', ?_, ?_⟩
        · refine ⟨_, rfl, a, _, rfl, .inl (v8.seq ha), _, _, rfl, rfl, _, rfl, ?_⟩
          rw [List.length_map]
          by_cases c6 : (songs.length : Int) < 6
          · rw [decide_eq_true c6]
            refine iteT ⟨_, rfl, c, _, _, _, rfl, rfl, SqL.of hc8, atI_nat (j := 0) rfl, songs.length, by omega, _, rfl, _, rfl, Nat.zero_le _, fun e ne => ?_⟩
            refine to_new ne fun H9 s9 he => ?_
            refine ⟨a, e, songs, [], gap, rfl, (v8.trans s9).seq ha, by omega, he, by show 0 + songs.length = _; omega, (fun x hx => by cases hx), g0, fun H10 s10 => ?_⟩
            rw [can_iff g0 hs, hn]
            exact ⟨rfl, _, rfl, iteF ⟨rfl, s9.trans s10⟩⟩
          · rw [decide_eq_false c6]
            exact iteF (iteF ⟨rfl, Same.refl _⟩)
        rintro σ' H9 ⟨rfl, s9⟩
        have hp9 := s9 _ _ (s8 _ _ hp7)
        have hlo9 := s9 _ _ (s8 _ _ hlo7)
        have v9 := v8.trans s9
        refine .inl ⟨_, rfl, p, dx, _, rfl, hp9, orF_shows _, _, rfl, _, rfl, p, l, a, songs, (orderFor songs gap), gap, rfl, ⟨⟨dx, hp9⟩, hlo9⟩, v9.seq ha, by omega, fun H10 s10 => ?_⟩
        rw [told_shows g0 hs hn]
        refine ⟨_, _, rfl, rfl, _, rfl, iteF ?_⟩
        refine ⟨_, rfl, _, rfl, _, _, rfl, rfl, by show 2 ≤ sizeLine; decide, fun t1 nt1 => ?_⟩
        refine to_new nt1 fun K1 k1 ht1 => ?_
        refine ⟨_, rfl, _, rfl, by show 2 ≤ sizeLine; decide, fun t2 nt2 => ?_⟩
        refine to_new nt2 fun K2 k2 ht2 => ?_
        refine ⟨_, rfl, _, rfl, _, _, rfl, rfl, _, _, rfl, by show 2 ≤ sizeLine; decide, fun t3 nt3 => ?_⟩
        refine to_new nt3 fun K3 k3 ht3 => ?_
        refine ⟨by show 3 ≤ sizeLine; decide, fun t4 nt4 => ?_⟩
        refine to_new nt4 fun K4 k4 ht4 => ?_
        have v10 := v9.trans s10
        have vK := v10.trans (k1.trans (k2.trans (k3.trans k4)))
        have sK := s9.trans (s10.trans (k1.trans (k2.trans (k3.trans k4))))
        have items : ∀ v ∈ [V.ref t1, .ref t2, .ref t3], ∃ (t b : Addr) (som : List Int) (wd : Int), v = .ref t ∧ K4 t = some (.tup [.ref b, .int wd]) ∧ SqL K K4 b (som.map V.int) ∧ som.length ≤ 60 ∧ GapOk wd := fun v hv => by
          simp only [List.mem_cons, List.not_mem_nil, or_false] at hv
          rcases hv with rfl | rfl | rfl
          · exact ⟨t1, a, songs, _, rfl, (k2.trans (k3.trans k4)) _ _ ht1, vK.seq ha, by omega, ⟨by omega, by omega⟩⟩
          · exact ⟨t2, o, other, _, rfl, (k3.trans k4) _ _ ht2, vK.seq ho, by omega, gok⟩
          · exact ⟨t3, a, songs, _, rfl, k4 _ _ ht3, vK.seq ha, by omega, ⟨by split <;> omega, by split <;> omega⟩⟩
        refine ⟨t4, rfl, ⟨_, SqT.of ht4⟩, for_it (walk_tup (xs := [V.ref t1, .ref t2, .ref t3])) (fun j σ H' => ∃ y7 y8 : Option V, σ = [some (.ref a), some (.int gap), some (.ref o), some (.ref hd), some (.int (0 + (i : Int))), some (.ref p), some (.ref c), y7, y8] ∧ Same K4 H') ?_ ?_ ?_ ?_⟩
        · exact ⟨_, _, rfl, Same.refl _⟩
        · rintro j σ G _ ⟨_, _, _, g⟩
          exact SqT.of (g _ _ ht4)
        · rintro j v σ G G2 hj ⟨y7, y8, rfl, g⟩ ⟨rfl, hv⟩
          obtain ⟨t, b, som, wd, rfl, ht, hb, hsl, hwd⟩ := items v (List.mem_of_getElem? hv)
          refine ⟨t, _, rfl, SqT.of (g _ _ ht), rfl, _, _, rfl, _, _, rfl, rfl, ?_⟩
          have hpG := g _ _ (sK _ _ (s8 _ _ hp7))
          have hloG := g _ _ (sK _ _ (s8 _ _ hlo7))
          refine .inl ⟨_, rfl, p, dx, _, rfl, hpG, orF_shows _, _, rfl, _, rfl, p, l, b, som, (orderFor songs gap), wd, rfl, ⟨⟨dx, hpG⟩, hloG⟩, g.seq hb, by omega, fun G3 g3 => ?_⟩
          refine ⟨_, rfl, _, rfl, _, rfl, b, p, l, som, wd, rfl, (g.trans g3).seq hb, hsl, hwd, .inl ⟨(orderFor songs gap), ⟨⟨dx, g3 _ _ hpG⟩, g3 _ _ hloG⟩, by omega, fun G4 g4 => ?_⟩⟩
          refine ⟨_, _, rfl, ?_⟩
          rw [decide_eq_true rfl]
          exact ⟨_, rfl, iteF ⟨_, _, rfl, g.trans (g3.trans g4)⟩⟩
        · rintro σ G ⟨y7, y8, rfl, g⟩
          have hpG := g _ _ (sK _ _ (s8 _ _ hp7))
          have hloG := g _ _ (sK _ _ (s8 _ _ hlo7))
          have hcG := g _ _ (sK _ _ hc8)
          refine ⟨_, rfl, c, _, _, _, rfl, rfl, SqL.of hcG, atI_nat (j := 0) rfl, _, rfl, iteT ⟨_, rfl, p, _, dx, _, _, rfl, hpG, T.cls_Spaced, T.na_Spaced_order, orF_order _, .inl ⟨rfl, _, SqL.of hloG⟩, l, _, _, rfl, rfl, hloG, lt_line (by rw [List.length_map]; omega), ?_⟩⟩
          rw [← snoc_ints]
          refine to_put fun G2 f2 hl2 => ?_
          have npl : p ≠ l := ne_of hpG hloG (by intro z; cases z)
          have hp2 := f2.one npl hpG
          have u2 : Same H2 G2 := f2.back (s3.trans (s4.trans (t7.trans (s8.trans (sK.trans g))))) (fun x hx => by rw [List.mem_singleton.mp hx]; exact nl)
          refine .inl ⟨_, rfl, p, dx, _, rfl, hp2, orF_shows _, _, rfl, _, rfl, p, l, a, songs, ((orderFor songs gap) ++ [0]), gap, rfl, ⟨⟨dx, hp2⟩, hl2⟩, ((s1.trans s2).trans u2).seq ha, by omega, fun G3 g3 => ?_⟩
          rw [told_long g0 hs hn]
          exact ⟨_, _, rfl, rfl, _, rfl, iteF ⟨_, _, _, _, _, rfl, s2.trans (u2.trans g3)⟩⟩
      · obtain ⟨⟨dx, hp⟩, hlo⟩ := hat
        have hosl : ss.length ≤ 60 := by have := barring_len hn; omega
        refine ⟨_, rfl, _, _, _, _, _, rfl, .own _, ty_ins hp T.cls_Barred T.ic_Barred, T.ki_Barred_Spaced, _, rfl, _, _, _, _, _, rfl, .own _, ty_ins hp T.cls_Barred T.ic_Barred, T.ki_Barred_Barred, by show 2 ≤ sizeLine; decide, fun c nc => ?_⟩
        refine to_new nc fun H4 s4 hc => ?_
        have hp4 := s4 _ _ hp
        refine ⟨_, rfl, _, _, _, _, _, rfl, .own _, ty_ins hp4 T.cls_Barred T.ic_Barred, T.ki_Barred_Answer, _, rfl, iteF ?_⟩
        refine ⟨_, rfl, by show 2 ≤ sizeLine; decide, fun d1 nd1 => ?_⟩
        refine to_new nd1 fun H5 s5 hd1 => ?_
        refine ⟨by show 2 ≤ sizeLine; decide, fun d2 nd2 => ?_⟩
        refine to_new nd2 fun H6 s6 hd2 => ?_
        refine ⟨by show 2 ≤ sizeLine; decide, fun d3 nd3 => ?_⟩
        refine to_new nd3 fun H7 s7 hd3 => ?_
        have t7 := s5.trans (s6.trans s7)
        refine ⟨_, _, .lst (SqL.of (t7 _ _ hc)) (.cons (.bl _) (.cons (.bl _) .nil)), .tup (SqT.of hd3) (.cons (.lst (SqL.of ((s6.trans s7) _ _ hd1)) (.cons (.bl _) (.cons (.bl _) .nil))) (.cons (.lst (SqL.of (s7 _ _ hd2)) (.cons (.bl _) (.cons (.bl _) .nil))) .nil)), (shp_bb _ _).ok, shp_tt.ok, _, rfl, ?_⟩
        rw [show ([PyData.list [.bool true, .bool false], .list [.bool false, .bool true]].any fun z => PyData.eqv z (.list [.bool false, .bool true])) = true from sorts_in false]
        have u7 := s13.trans (s4.trans t7)
        have v7 := s1.trans u7
        refine iteF ⟨_, rfl, _, rfl, _, _, dp_ints (SqL.of (u7 _ _ hhd)), dp_ints (v7.seq ha), (shp_ints _).ok, (shp_ints _).ok, _, rfl, ?_⟩
        rw [eqv_ints]
        refine iteF ?_
        have hp7 := t7 _ _ hp4
        have hlo7 := t7 _ _ (s4 _ _ hlo)
        refine ⟨_, rfl, _, _, _, _, _, rfl, .own _, ty_ins hp7 T.cls_Barred T.ic_Barred, T.ki_Barred_Right, _, rfl, iteF ?_⟩
        refine ⟨_, rfl, _, _, _, _, _, rfl, .own _, ty_ins hp7 T.cls_Barred T.ic_Barred, T.ki_Barred_Wrong, _, rfl, iteF ?_⟩
        refine ⟨_, rfl, _, rfl, _, rfl, a, p, l, songs, gap, rfl, v7.seq ha, by omega, gok, .inr ⟨ss, ⟨⟨dx, hp7⟩, hlo7⟩, by omega, fun H8 s8 => ⟨_, rfl, ?_⟩⟩⟩
        rw [barring_bars hn]
        have v8 := v7.trans s8
        have hc8 := s8 _ _ (t7 _ _ hc)
        refine iteF ⟨fun σ' H' => σ' = [some (.ref a), some (.int gap), some (.ref o), some (.ref hd), some (.int (0 + (i : Int))), some (.ref p), some (.ref c), x7, x8] ∧ Same H8 H', ?_, ?_⟩
        · refine ⟨_, rfl, a, _, rfl, .inl (v8.seq ha), _, _, rfl, rfl, _, rfl, ?_⟩
          rw [List.length_map]
          by_cases c6 : (songs.length : Int) < 6
          · rw [decide_eq_true c6]
            refine iteT ⟨_, rfl, c, _, _, _, rfl, rfl, SqL.of hc8, atI_nat (j := 0) rfl, songs.length, by omega, _, rfl, _, rfl, Nat.zero_le _, fun e ne => ?_⟩
            refine to_new ne fun H9 s9 he => ?_
            refine ⟨a, e, songs, [], gap, rfl, (v8.trans s9).seq ha, by omega, he, by show 0 + songs.length = _; omega, (fun x hx => by cases hx), g0, fun H10 s10 => ?_⟩
            rw [can_iff g0 hs, hn]
            exact ⟨rfl, _, rfl, iteF ⟨rfl, s9.trans s10⟩⟩
          · rw [decide_eq_false c6]
            exact iteF (iteF ⟨rfl, Same.refl _⟩)
        rintro σ' H9 ⟨rfl, s9⟩
        have hp9 := s9 _ _ (s8 _ _ hp7)
        have hlo9 := s9 _ _ (s8 _ _ hlo7)
        have v9 := v8.trans s9
        refine .inr ⟨_, rfl, p, dx, _, rfl, hp9, siF_shows _, _, rfl, _, rfl, p, l, a, songs, ss, gap, rfl, ⟨⟨dx, hp9⟩, hlo9⟩, v9.seq ha, by omega, gok, by first | omega | (rw [List.length_append, List.length_singleton]; omega), fun H10 s10 => ?_⟩
        rw [barring_bars hn]
        refine ⟨_, _, rfl, rfl, _, rfl, iteF ?_⟩
        refine ⟨_, rfl, _, rfl, _, _, rfl, rfl, by show 2 ≤ sizeLine; decide, fun t1 nt1 => ?_⟩
        refine to_new nt1 fun K1 k1 ht1 => ?_
        refine ⟨_, rfl, _, rfl, by show 2 ≤ sizeLine; decide, fun t2 nt2 => ?_⟩
        refine to_new nt2 fun K2 k2 ht2 => ?_
        refine ⟨_, rfl, _, rfl, _, _, rfl, rfl, _, _, rfl, by show 2 ≤ sizeLine; decide, fun t3 nt3 => ?_⟩
        refine to_new nt3 fun K3 k3 ht3 => ?_
        refine ⟨by show 3 ≤ sizeLine; decide, fun t4 nt4 => ?_⟩
        refine to_new nt4 fun K4 k4 ht4 => ?_
        have v10 := v9.trans s10
        have vK := v10.trans (k1.trans (k2.trans (k3.trans k4)))
        have sK := s9.trans (s10.trans (k1.trans (k2.trans (k3.trans k4))))
        have items : ∀ v ∈ [V.ref t1, .ref t2, .ref t3], ∃ (t b : Addr) (som : List Int) (wd : Int), v = .ref t ∧ K4 t = some (.tup [.ref b, .int wd]) ∧ SqL K K4 b (som.map V.int) ∧ som.length ≤ 60 ∧ GapOk wd := fun v hv => by
          simp only [List.mem_cons, List.not_mem_nil, or_false] at hv
          rcases hv with rfl | rfl | rfl
          · exact ⟨t1, a, songs, _, rfl, (k2.trans (k3.trans k4)) _ _ ht1, vK.seq ha, by omega, ⟨by omega, by omega⟩⟩
          · exact ⟨t2, o, other, _, rfl, (k3.trans k4) _ _ ht2, vK.seq ho, by omega, gok⟩
          · exact ⟨t3, a, songs, _, rfl, k4 _ _ ht3, vK.seq ha, by omega, ⟨by split <;> omega, by split <;> omega⟩⟩
        refine ⟨t4, rfl, ⟨_, SqT.of ht4⟩, for_it (walk_tup (xs := [V.ref t1, .ref t2, .ref t3])) (fun j σ H' => ∃ y7 y8 : Option V, σ = [some (.ref a), some (.int gap), some (.ref o), some (.ref hd), some (.int (0 + (i : Int))), some (.ref p), some (.ref c), y7, y8] ∧ Same K4 H') ?_ ?_ ?_ ?_⟩
        · exact ⟨_, _, rfl, Same.refl _⟩
        · rintro j σ G _ ⟨_, _, _, g⟩
          exact SqT.of (g _ _ ht4)
        · rintro j v σ G G2 hj ⟨y7, y8, rfl, g⟩ ⟨rfl, hv⟩
          obtain ⟨t, b, som, wd, rfl, ht, hb, hsl, hwd⟩ := items v (List.mem_of_getElem? hv)
          refine ⟨t, _, rfl, SqT.of (g _ _ ht), rfl, _, _, rfl, _, _, rfl, rfl, ?_⟩
          have hpG := g _ _ (sK _ _ (s8 _ _ hp7))
          have hloG := g _ _ (sK _ _ (s8 _ _ hlo7))
          refine .inr ⟨_, rfl, p, dx, _, rfl, hpG, siF_shows _, _, rfl, _, rfl, p, l, b, som, ss, wd, rfl, ⟨⟨dx, hpG⟩, hloG⟩, g.seq hb, hsl, hwd, by first | omega | (rw [List.length_append, List.length_singleton]; omega), fun G3 g3 => ?_⟩
          refine ⟨_, rfl, _, rfl, _, rfl, b, p, l, som, wd, rfl, (g.trans g3).seq hb, hsl, hwd, .inr ⟨ss, ⟨⟨dx, g3 _ _ hpG⟩, g3 _ _ hloG⟩, by omega, fun G4 g4 => ?_⟩⟩
          refine ⟨_, _, rfl, ?_⟩
          rw [decide_eq_true rfl]
          exact ⟨_, rfl, iteF ⟨_, _, rfl, g.trans (g3.trans g4)⟩⟩
        · rintro σ G ⟨y7, y8, rfl, g⟩
          have hpG := g _ _ (sK _ _ (s8 _ _ hp7))
          have hloG := g _ _ (sK _ _ (s8 _ _ hlo7))
          have hcG := g _ _ (sK _ _ hc8)
          refine ⟨_, rfl, c, _, _, _, rfl, rfl, SqL.of hcG, atI_nat (j := 0) rfl, _, rfl, iteF ⟨_, rfl, p, _, dx, _, _, rfl, hpG, T.cls_Barred, T.na_Barred_singers, siF_singers _, .inl ⟨rfl, _, SqL.of hloG⟩, l, _, _, rfl, rfl, hloG, lt_line (by rw [List.length_map]; omega), ?_⟩⟩
          rw [← snoc_ints]
          refine to_put fun G2 f2 hl2 => ?_
          have npl : p ≠ l := ne_of hpG hloG (by intro z; cases z)
          have hp2 := f2.one npl hpG
          have u2 : Same H2 G2 := f2.back (s3.trans (s4.trans (t7.trans (s8.trans (sK.trans g))))) (fun x hx => by rw [List.mem_singleton.mp hx]; exact nl)
          refine .inr ⟨_, rfl, p, dx, _, rfl, hp2, siF_shows _, _, rfl, _, rfl, p, l, a, songs, (ss ++ [0]), gap, rfl, ⟨⟨dx, hp2⟩, hl2⟩, ((s1.trans s2).trans u2).seq ha, by omega, gok, by first | omega | (rw [List.length_append, List.length_singleton]; omega), fun G3 g3 => ?_⟩
          rw [bars_long hn]
          exact ⟨_, _, rfl, rfl, _, rfl, iteF ⟨_, _, _, _, _, rfl, s2.trans (u2.trans g3)⟩⟩
    · rintro σ G ⟨_, _, _, _, _, rfl, g⟩
      exact q _ (s1.trans g)
end
end Song

/-! ### L05: the law k05 -/
namespace Song
open PySem L2
theorem b5_1 : barring [0, 0] 1 = some [0] := by decide +kernel
theorem b5_2 : barring [0, 1, 0] 1 = none := by decide +kernel
theorem b5_3 : barring [0, 0, 1, 1] 2 = some [0, 1] := by decide +kernel
theorem b5_4 : barring [0, 1, 0, 1, 2] 2 = none := by decide +kernel
theorem b5_5 : barring [] 9 = none := by decide +kernel
theorem sok5 {songs : List Int} (h : (decide (songs.length ≤ 24) && (songs.all fun s => decide (0 ≤ s ∧ s < 6))) = true) : SongsOk songs := by
  rw [Bool.and_eq_true] at h
  exact ⟨of_decide_eq_true h.1, fun s hs => of_decide_eq_true (List.all_eq_true.mp h.2 s hs)⟩
section
variable {P : Program} {w : World} {K : PySem.W.Frag} {mg : Str → Option Value} {base : Heap}
theorem sc_law : FnScope ["_law_script", "_law_by", "_law_songs_here", "_law_few", "_law_value_here", "_law_gap", "_law_some", "_law_wide", "_law_both"] ["_law_script"] (defScope s_law) := ⟨rfl, rfl, rfl, by decide +kernel, rfl, by decide +kernel, by decide +kernel⟩
theorem ok_law0 {fd : FuncData} (T : Tx K mg) (F : FnP K "law" "law" s_law (He.ga K "law") fd) : FnOk P w K mg base CX0 9 (He.ga K "law") fd ["_law_script"] (spLaw K) := by
  refine F.ok (CX := CX0) sc_law (fun vs H Q E h => ?_) (fun cdv A outer s H vs Q E hr h => ?_)
  · obtain ⟨a, ns, rfl, _⟩ := h; rfl
  · obtain ⟨a, ns, rfl, hs, hb, q⟩ := h
    refine ⟨_, PSs.nox (pss_cons (ps_set (i := 0) sc_law.nd rfl (by first | exact Or.inl rfl | exact Or.inr rfl) (pe_slice (show SlR _ (rSlL K) from sl_list) (pv 0) po_none (po_some pe_int)))
      (pss_cons (ps_for PassesOwn.never rfl (pi_range3 (by rfl) T.range (pa_cons pe_int (pa_cons (pe_callB (call_max2 (by rfl)) (by rfl) T.max (by decide +kernel) (pa_cons pe_int (pa_cons (pe_callB (call_min2 (by rfl)) (by rfl) T.min (by decide +kernel) (pa_cons pe_int (pa_cons (pe_callB (show CallR _ _ (rLenQ K) from call_len_seq) (by rfl) T.len (by decide +kernel) (pa_cons (pv 0) pa_nil)) pa_nil))) pa_nil))) (pa_cons pe_int pa_nil)))) (pg_name (i := 1) sc_law.nd rfl (by first | exact Or.inl rfl | exact Or.inr rfl))
      (pss_cons (ps_par (i := 2) (j := 3) (by rfl) sc_law.nd rfl rfl (by decide) rfl rfl (pa_cons (pe_fn (fn__law_songs T) (hr.mono (by first | decide | omega)) (by rfl) (pa_cons (pv 0) (pa_cons (pv 1) (pa_cons pe_int pa_nil)))) (pa_cons (pe_fn (fn__law_songs T) (hr.mono (by first | decide | omega)) (by rfl) (pa_cons (pv 0) (pa_cons (pe_op op_add (pv 1) pe_int) (pa_cons pe_int pa_nil)))) pa_nil)) (by rfl))
      (pss_cons (ps_set (i := 4) sc_law.nd rfl (by first | exact Or.inl rfl | exact Or.inr rfl) (pe_fn (fn__law_value T) (hr.mono (by first | decide | omega)) (by rfl) (pa_cons (pe_fn (fn__law_cell_at T) (hr.mono (by first | decide | omega)) (by rfl) (pa_cons (pv 0) (pa_cons (pv 1) pa_nil))) (pa_cons pe_int pa_nil))))
      (pss_cons (ps_set (i := 5) sc_law.nd rfl (by first | exact Or.inl rfl | exact Or.inr rfl) (pe_op op_mod (pv 4) (pe_ix (show IxR _ (rIxT K) from ix_tup) (pe_tup (pa_cons pe_int (pa_cons pe_int (pa_cons pe_int pa_nil)))) (pe_op op_mod (pe_op op_fdivW (pv 4) pe_int) pe_int) (fun _ _ => rfl))))
      (pss_one (ps_for PassesOwn.never rfl (show PI _ _ _ (iTup K _) from pi_tup (pe_tup (pa_cons (pe_tup (pa_cons (pv 2) (pa_cons (pv 5) pa_nil))) (pa_cons (pe_tup (pa_cons (pv 3) (pa_cons (pe_op op_mod (pv 5) pe_int) pa_nil))) (pa_cons (pe_tup (pa_cons (pv 2) (pa_cons (pe_op op_mod (pv 5) pe_int) pa_nil))) (pa_cons (pe_tup (pa_cons (pv 3) (pa_cons (pe_op op_pow pe_int pe_int) pa_nil))) pa_nil)))))) (show PG _ _ (gTup K _ _) from pg_tup rfl (pgs_cons (pg_name (i := 6) sc_law.nd rfl (by first | exact Or.inl rfl | exact Or.inr rfl)) (pgs_cons (pg_name (i := 7) sc_law.nd rfl (by first | exact Or.inl rfl | exact Or.inr rfl)) pgs_nil)))
      (pss_one (ps_if (pt_not (pt_val (pe_fn (fn__law_right T) (hr.mono (by first | decide | omega)) (by rfl) (pa_cons (pv 6) (pa_cons (pv 7) (pa_cons (pv 3) pa_nil)))))) (pss_one (ps_ret pe_bl)) pss_nil))))))))
      (pss_cons (ps_if (PW.pt (pw_or (pt_not (pt_val (pe_callB (show CallR _ _ (rIsi K) from call_isi) (by rfl) T.isinstance (by decide +kernel) (pa_cons (pe_fn (fn_spaced T) (hr.mono (by first | decide | omega)) (by rfl) (pa_cons (pe_lst (pa_cons pe_int (pa_cons pe_int pa_nil))) (pa_cons pe_int pa_nil))) (pa_cons (pe_gc T.g_Barred (by rfl)) pa_nil))))) (pw_or1 (pt_not (pt_val (pe_callB (show CallR _ _ (rIsi K) from call_isi) (by rfl) T.isinstance (by decide +kernel) (pa_cons (pe_fn (fn_spaced T) (hr.mono (by first | decide | omega)) (by rfl) (pa_cons (pe_lst (pa_cons pe_int (pa_cons pe_int (pa_cons pe_int pa_nil)))) (pa_cons pe_int pa_nil))) (pa_cons (pe_gc T.g_Spaced (by rfl)) pa_nil)))))))) (pss_one (ps_ret pe_bl)) pss_nil)
      (pss_cons (ps_set (i := 8) sc_law.nd rfl (by first | exact Or.inl rfl | exact Or.inr rfl) (pe_fn (fn_spaced T) (hr.mono (by first | decide | omega)) (by rfl) (pa_cons (pe_lst (pa_cons pe_int (pa_cons pe_int (pa_cons pe_int (pa_cons pe_int pa_nil))))) (pa_cons pe_int pa_nil))))
      (pss_cons (ps_if (PW.pt (pw_or (pt_not (pt_val (pe_callB (show CallR _ _ (rIsi K) from call_isi) (by rfl) T.isinstance (by decide +kernel) (pa_cons (pv 8) (pa_cons (pe_gc T.g_Barred (by rfl)) pa_nil))))) (pw_or1 (pt_cmpR (show OpR _ _ (rNeD K) from op_neD hr.units) (show PE _ _ (tFld K _ _) from pe_fld (pv 8) rfl) (pe_lst (pa_cons pe_int (pa_cons pe_int pa_nil))) (nomark _))))) (pss_one (ps_ret pe_bl)) pss_nil)
      (pss_one (ps_ret (pe_and (pe_callB (show CallR _ _ (rIsi K) from call_isi) (by rfl) T.isinstance (by decide +kernel) (pa_cons (pe_fn (fn_spaced T) (hr.mono (by first | decide | omega)) (by rfl) (pa_cons (pe_lst (pa_cons pe_int (pa_cons pe_int (pa_cons pe_int (pa_cons pe_int (pa_cons pe_int pa_nil)))))) (pa_cons pe_int pa_nil))) (pa_cons (pe_gc T.g_Spaced (by rfl)) pa_nil))) (pe_one (pe_callB (show CallR _ _ (rIsi K) from call_isi) (by rfl) T.isinstance (by decide +kernel) (pa_cons (pe_fn (fn_spaced T) (hr.mono (by first | decide | omega)) (by rfl) (pa_cons (pe_lst pa_nil) (pa_cons pe_int pa_nil))) (pa_cons (pe_gc T.g_Spaced (by rfl)) pa_nil)))))))))))), ?_⟩
    refine ⟨_, rfl, _, rfl, a, _, rfl, hs, fun z nz => ?_⟩
    rw [cut63 hb.1]
    refine to_new nz fun H1 s1 hz => ?_
    refine ⟨_, rfl, z, _, rfl, .inl (SqL.of hz), _, _, rfl, _, _, rfl, ?_⟩
    generalize hup : (if (if (((ns.map V.int).length : Nat) : Int) < 6 then (((ns.map V.int).length : Nat) : Int) else 6) > 1 then (if (((ns.map V.int).length : Nat) : Int) < 6 then (((ns.map V.int).length : Nat) : Int) else 6) else 1) = up
    have up6 : 1 ≤ up ∧ up ≤ 6 := by
      subst hup
      split <;> split <;> omega
    have rg : RgC 0 up 2 ((up.toNat + 1) / 2) := by
      have e : up = 1 ∨ up = 2 ∨ up = 3 ∨ up = 4 ∨ up = 5 ∨ up = 6 := by omega
      rcases e with rfl | rfl | rfl | rfl | rfl | rfl <;> exact ⟨by decide, by decide, by decide, by decide⟩
    refine ⟨_, _, _, _, rfl, rg, for_rangeC (fun i σ H' => ∃ x1 x2 x3 x4 x5 x6 x7 x8, σ = [some (.ref z), x1, x2, x3, x4, x5, x6, x7, x8] ∧ Same H1 H') ?_ ?_ ?_⟩
    · exact ⟨_, _, _, _, _, _, _, _, rfl, Same.refl _⟩
    · rintro i0 σ H2 hi ⟨x1, x2, x3, x4, x5, x6, x7, x8, rfl, s2⟩
      have by0 : (0 : Int) ≤ 0 + (i0 : Nat) * 2 := by omega
      have cb : ∀ k : Int, Bits 1048600 (cellAt ns k) := fun k => (hb.cell k).mono (by decide)
      refine ⟨_, rfl, _, rfl, z, ns, _, _, rfl, SqL.of (s2 _ _ hz), hb, by0, by decide, by decide, fun l H3 songs nl s3 hl3 hlen hsg => ?_⟩
      have sok : SongsOk songs := ⟨by omega, hsg⟩
      refine ⟨_, rfl, _, rfl, _, _, rfl, rfl, z, ns, _, _, rfl, SqL.of (s3 _ _ (s2 _ _ hz)), hb, by omega, by decide, by decide, fun l2 H4 fw nl2 s4 hl4 hlen2 hsg2 => ?_⟩
      have fok : SongsOk fw := ⟨by omega, hsg2⟩
      refine ⟨_, _, rfl, ?_⟩
      have s14 := s2.trans (s3.trans s4)
      refine ⟨_, rfl, _, rfl, z, ns, _, rfl, SqL.of (s14 _ _ hz), by0, _, _, rfl, cb _, by decide, by decide, fun H5 s5 => ?_⟩
      generalize hval : lawValue (cellAt ns (0 + (i0 : Nat) * 2)) 5 = val
      have v0 : 0 ≤ val := by rw [← hval]; exact lawValue_nn _ _
      have r0 := Int.emod_nonneg (val / 8) (b := 3) (by decide)
      have r1 := Int.emod_lt_of_pos (val / 8) (b := 3) (by decide)
      refine ⟨_, rfl, by show 3 ≤ sizeLine; decide, fun t nt => ?_⟩
      refine to_new nt fun H6 s6 ht => ?_
      refine ⟨_, rfl, _, _, rfl, rfl, ⟨by decide, by decide +kernel⟩, _, _, rfl, rfl, (show (0 : Int) < 3 by decide), t, ([8, 8, 30] : List Int).map V.int, _, _, rfl, rfl, SqT.of ht, at_int (ls := [8, 8, 30]) r0 r1, ?_⟩
      have hw : 0 < ([8, 8, 30] : List Int).getD (val / 8 % 3).toNat 0 ∧ ([8, 8, 30] : List Int).getD (val / 8 % 3).toNat 0 ≤ 30 := by
        have e : (val / 8 % 3).toNat = 0 ∨ (val / 8 % 3).toNat = 1 ∨ (val / 8 % 3).toNat = 2 := by omega
        rcases e with e | e | e <;> rw [e] <;> decide
      generalize ([8, 8, 30] : List Int).getD (val / 8 % 3).toNat 0 = wd at *
      refine ⟨_, _, rfl, rfl, hw.1, ?_⟩
      obtain ⟨gap, hgap⟩ : ∃ g, val % wd = g := ⟨_, rfl⟩
      have g0 : 0 ≤ gap ∧ gap < 30 := by
        rw [← hgap]
        have := Int.emod_nonneg val (b := wd) (by omega)
        have := Int.emod_lt_of_pos val (b := wd) (by omega)
        omega
      rw [show (fun i j : Int => V.int (i % j)) val wd = V.int gap from congrArg V.int hgap]
      have s16 := s14.trans (s5.trans s6)
      have m50 := Int.emod_nonneg gap (b := 5) (by decide)
      have m51 := Int.emod_lt_of_pos gap (b := 5) (by decide)
      have m30 := Int.emod_nonneg gap (b := 3) (by decide)
      have m31 := Int.emod_lt_of_pos gap (b := 3) (by decide)
      refine ⟨_, rfl, _, rfl, by show 2 ≤ sizeLine; decide, fun t1 nt1 => ?_⟩
      refine to_new nt1 fun K1 k1 ht1 => ?_
      refine ⟨_, rfl, _, rfl, _, _, rfl, rfl, (show (0 : Int) < 5 by decide), by show 2 ≤ sizeLine; decide, fun t2 nt2 => ?_⟩
      refine to_new nt2 fun K2 k2 ht2 => ?_
      refine ⟨_, rfl, _, rfl, _, _, rfl, rfl, (show (0 : Int) < 3 by decide), by show 2 ≤ sizeLine; decide, fun t3 nt3 => ?_⟩
      refine to_new nt3 fun K3 k3 ht3 => ?_
      refine ⟨_, rfl, _, _, rfl, rfl, ⟨by decide, by decide, by decide⟩, by show 2 ≤ sizeLine; decide, fun t4 nt4 => ?_⟩
      refine to_new nt4 fun K4 k4 ht4 => ?_
      refine ⟨by show 4 ≤ sizeLine; decide, fun t5 nt5 => ?_⟩
      refine to_new nt5 fun K5 k5 ht5 => ?_
      have kk := k1.trans (k2.trans (k3.trans (k4.trans k5)))
      have hlK := kk _ _ (s6 _ _ (s5 _ _ (s4 _ _ hl3)))
      have hl2K := kk _ _ (s6 _ _ (s5 _ _ hl4))
      have items : ∀ v ∈ [V.ref t1, .ref t2, .ref t3, .ref t4], ∃ (t b : Addr) (som : List Int) (wd : Int), v = .ref t ∧ K5 t = some (.tup [.ref b, .int wd]) ∧ SqL K K5 b (som.map V.int) ∧ SongsOk som ∧ 0 ≤ wd ∧ wd < 2 ^ 90 := fun v hv => by
        simp only [List.mem_cons, List.not_mem_nil, or_false] at hv
        rcases hv with rfl | rfl | rfl | rfl
        · exact ⟨t1, l, songs, _, rfl, (k2.trans (k3.trans (k4.trans k5))) _ _ ht1, SqL.of hlK, sok, by omega, by omega⟩
        · exact ⟨t2, l2, fw, _, rfl, (k3.trans (k4.trans k5)) _ _ ht2, SqL.of hl2K, fok, by omega, by omega⟩
        · exact ⟨t3, l, songs, _, rfl, (k4.trans k5) _ _ ht3, SqL.of hlK, sok, by omega, by omega⟩
        · exact ⟨t4, l2, fw, _, rfl, k5 _ _ ht4, SqL.of hl2K, fok, by decide, by decide⟩
      refine ⟨t5, rfl, ⟨_, SqT.of ht5⟩, for_it (walk_tup (xs := [V.ref t1, .ref t2, .ref t3, .ref t4])) (fun j σ H' => ∃ y6 y7 : Option V, σ = [some (.ref z), some (.int (0 + (i0 : Nat) * 2)), some (.ref l), some (.ref l2), some (.int val), some (.int gap), y6, y7, x8] ∧ Same K5 H') ?_ ?_ ?_ ?_⟩
      · exact ⟨_, _, rfl, Same.refl _⟩
      · rintro j σ G _ ⟨_, _, _, g⟩
        exact SqT.of (g _ _ ht5)
      · rintro j v σ G G2 hj ⟨y6, y7, rfl, g⟩ ⟨rfl, hv⟩
        obtain ⟨t, b, som, wd2, rfl, ht, hb, hsl, hw0, hw1⟩ := items v (List.mem_of_getElem? hv)
        refine ⟨t, _, rfl, SqT.of (g _ _ ht), rfl, _, _, rfl, _, _, rfl, rfl, ?_⟩
        exact ⟨_, rfl, _, rfl, _, rfl, b, l2, som, fw, wd2, rfl, g.seq hb, hsl, SqL.of (g _ _ hl2K), fok, hw0, hw1, fun G3 g3 => ⟨_, rfl, iteF ⟨_, _, rfl, g.trans g3⟩⟩⟩
      · rintro σ G ⟨y6, y7, rfl, g⟩
        exact ⟨_, _, _, _, _, _, _, _, rfl, s16.trans (kk.trans g)⟩
    · rintro σ H2 ⟨x1, x2, x3, x4, x5, x6, x7, x8, rfl, s2⟩
      have gk : ∀ g : Int, 0 ≤ g → g < 100 → GapOk g := fun g h1 h2 => ⟨h1, by omega⟩
      refine ⟨by show 2 ≤ sizeLine; decide, fun a1 na1 => ?_⟩
      refine to_new na1 fun A1 p1 ha1 => ?_
      refine ⟨a1, [0, 0], 1, rfl, SqL.of ha1, sok5 (by decide), gk _ (by decide) (by decide), fun hn => absurd hn (by rw [b5_1]; intro z; cases z), fun ss hn p tl I1 np ntl i1 hba => ?_⟩
      obtain ⟨⟨dx, hp⟩, hol⟩ := hba
      refine ⟨_, _, _, _, _, rfl, .own _, ty_ins hp T.cls_Barred T.ic_Barred, T.ki_Barred_Barred, _, rfl, iteF ?_⟩
      refine ⟨by show 3 ≤ sizeLine; decide, fun a2 na2 => ?_⟩
      refine to_new na2 fun A2 p2 ha2 => ?_
      refine ⟨a2, [0, 1, 0], 1, rfl, SqL.of ha2, sok5 (by decide), gk _ (by decide) (by decide), fun hn p2 tl2 I2 np2 ntl2 i2 hsp => ?_, fun ss2 hn => absurd hn (by rw [b5_2]; intro z; cases z)⟩
      obtain ⟨⟨dx2, hp2⟩, hol2⟩ := hsp
      refine ⟨_, _, _, _, _, rfl, .own _, ty_ins hp2 T.cls_Spaced T.ic_Spaced, T.ki_Spaced_Spaced, _, rfl, iteF ?_⟩
      refine ⟨by show 4 ≤ sizeLine; decide, fun a3 na3 => ?_⟩
      refine to_new na3 fun A3 p3 ha3 => ?_
      refine ⟨a3, [0, 0, 1, 1], 2, rfl, SqL.of ha3, sok5 (by decide), gk _ (by decide) (by decide), fun hn => absurd hn (by rw [b5_3]; intro z; cases z), fun ss3 hn3 p3 tl3 I3 np3 ntl3 i3 hba3 => ?_⟩
      obtain ⟨⟨dx3, hp3⟩, hol3⟩ := hba3
      rw [b5_3] at hn3
      have e3 : ss3 = [0, 1] := (Option.some.inj hn3).symm
      subst e3
      refine ⟨_, rfl, _, _, _, _, _, rfl, .own _, ty_ins hp3 T.cls_Barred T.ic_Barred, T.ki_Barred_Barred, _, rfl, iteF ?_⟩
      refine ⟨_, rfl, p3, _, dx3, _, _, rfl, hp3, T.cls_Barred, T.na_Barred_singers, siF_singers _, by show 2 ≤ sizeLine; decide, fun a4 na4 => ?_⟩
      refine to_new na4 fun A4 p4 ha4 => ?_
      refine ⟨_, _, dp_ints (SqL.of (p4 _ _ hol3)), dp_ints (ns := [0, 1]) (SqL.of ha4), (shp_ints _).ok, (shp_ints _).ok, _, rfl, ?_⟩
      rw [eqv_ints]
      refine iteF ?_
      refine ⟨by show 5 ≤ sizeLine; decide, fun a5 na5 => ?_⟩
      refine to_new na5 fun A5 p5 ha5 => ?_
      refine ⟨a5, [0, 1, 0, 1, 2], 2, rfl, SqL.of ha5, sok5 (by decide), gk _ (by decide) (by decide), fun hn p6 tl6 I6 np6 ntl6 i6 hsp6 => ?_, fun ss2 hn => absurd hn (by rw [b5_4]; intro z; cases z)⟩
      obtain ⟨⟨dx6, hp6⟩, hol6⟩ := hsp6
      refine ⟨_, _, _, _, _, rfl, .own _, ty_ins hp6 T.cls_Spaced T.ic_Spaced, T.ki_Spaced_Spaced, _, rfl, iteT ?_⟩
      refine ⟨Nat.zero_le _, fun a7 na7 => ?_⟩
      refine to_new na7 fun A7 p7 ha7 => ?_
      refine ⟨a7, [], 9, rfl, SqL.of ha7, sok5 (by decide), gk _ (by decide) (by decide), fun hn p8 tl8 I8 np8 ntl8 i8 hsp8 => ?_, fun ss2 hn => absurd hn (by rw [b5_5]; intro z; cases z)⟩
      obtain ⟨⟨dx8, hp8⟩, hol8⟩ := hsp8
      exact ⟨_, _, _, _, _, rfl, .own _, ty_ins hp8 T.cls_Spaced T.ic_Spaced, T.ki_Spaced_Spaced, q _⟩
end
end Song

namespace Song
open PySem L2
def fn : List He.DefD := [d_counts_of, d_bars, d_barring, d_least_between, d_keeps, d_turns_in, d_order_for, d_is_whole, d_are_numbers, d_check_many, d_are_singers, d_check_songs, d_floor_of, d_round_for, d_in_turn, d_Evening___init__, d_Evening_wish, d_Evening_sing, d_Evening_look_at, d_Evening_withdraw, d_Evening_waits, d_Evening_tale, d_first_wrong, d_Right_shows, d_Wrong___init__, d_Wrong_shows, d_Spaced___init__, d_Spaced_shows, d_Barred___init__, d_Barred_shows, d_spaced, d__law_cell_at, d__law_draw, d__law_value, d__law_says, d__law_songs, d__law_keeps, d__law_bars, d__law_due, d__law_can, d__law_right, d_law]
def fa : List He.Fa := [.glo "counts_of", .glo "bars", .glo "barring", .glo "least_between", .glo "keeps", .glo "turns_in", .glo "order_for", .glo "TurnError", .glo "BadMany", .glo "BadSingers", .glo "BadSong", .glo "BadSongs", .glo "BadGap", .glo "TooMany", .int "MOST_SINGERS" 6, .int "MOST_OF_SONG" 3, .int "MOST_SONGS" 24, .glo "is_whole", .glo "are_numbers", .glo "check_many", .glo "are_singers", .glo "check_songs", .glo "floor_of", .glo "round_for", .glo "in_turn", .glo "Evening", .cls "Evening", .mkr "Evening", .meth "Evening" "wish", .meth "Evening" "sing", .meth "Evening" "look_at", .meth "Evening" "withdraw", .meth "Evening" "waits", .meth "Evening" "tale", .noat "Evening" "came", .noat "Evening" "going", .noat "Evening" "last", .noat "Evening" "rounds", .noat "Evening" "waiting", .glo "first_wrong", .glo "Answer", .cls "Answer", .glo "Right", .cls "Right", .meth "Right" "shows", .glo "Wrong", .cls "Wrong", .mkr "Wrong", .meth "Wrong" "shows", .noat "Wrong" "place", .glo "Spaced", .cls "Spaced", .mkr "Spaced", .meth "Spaced" "shows", .noat "Spaced" "order", .glo "Barred", .cls "Barred", .mkr "Barred", .meth "Barred" "shows", .noat "Barred" "singers", .glo "spaced", .glo "_law_cell_at", .glo "_law_draw", .glo "_law_value", .glo "_law_says", .glo "_law_songs", .glo "_law_keeps", .glo "_law_bars", .glo "_law_due", .glo "_law_can", .glo "_law_right", .glo "law", .free "len", .free "isinstance", .free "all", .free "any", .free "range", .free "sorted", .free "set", .free "max", .free "min", .free "list", .free "enumerate", .free "zip", .free "int", .free "bool", .free "tuple", .free "str", .free "dict", .free "abs"]
abbrev R : PySem.W.OpenRow := PySem.W.OpenLaw.row PySem.Challenge.rw_songturns_k05_whole_spaced
def ex : List (PySem.W.Frag → Bool) := [fun K => mkB K (He.ga K "Answer"), fun K => mkB K (He.ga K "Right"), fun K => isCB K (He.ga K "Evening"), fun K => decide (PySem.W.kitOne K (.ref (He.ga K "Evening")) (.ref (He.ga K "Answer")) = some false), fun K => decide (PySem.W.kitOne K (.ref (He.ga K "Evening")) (.ref (He.ga K "Barred")) = some false), fun K => decide (PySem.W.kitOne K (.ref (He.ga K "Evening")) (.ref (He.ga K "Right")) = some false), fun K => decide (PySem.W.kitOne K (.ref (He.ga K "Evening")) (.ref (He.ga K "Spaced")) = some false), fun K => decide (PySem.W.kitOne K (.ref (He.ga K "Evening")) (.ref (He.ga K "Wrong")) = some false), fun K => isCB K (He.ga K "Answer"), fun K => decide (PySem.W.kitOne K (.ref (He.ga K "Answer")) (.ref (He.ga K "Answer")) = some true), fun K => decide (PySem.W.kitOne K (.ref (He.ga K "Answer")) (.ref (He.ga K "Barred")) = some false), fun K => decide (PySem.W.kitOne K (.ref (He.ga K "Answer")) (.ref (He.ga K "Right")) = some false), fun K => decide (PySem.W.kitOne K (.ref (He.ga K "Answer")) (.ref (He.ga K "Spaced")) = some false), fun K => decide (PySem.W.kitOne K (.ref (He.ga K "Answer")) (.ref (He.ga K "Wrong")) = some false), fun K => isCB K (He.ga K "Right"), fun K => decide (PySem.W.kitOne K (.ref (He.ga K "Right")) (.ref (He.ga K "Answer")) = some true), fun K => decide (PySem.W.kitOne K (.ref (He.ga K "Right")) (.ref (He.ga K "Barred")) = some false), fun K => decide (PySem.W.kitOne K (.ref (He.ga K "Right")) (.ref (He.ga K "Right")) = some true), fun K => decide (PySem.W.kitOne K (.ref (He.ga K "Right")) (.ref (He.ga K "Spaced")) = some false), fun K => decide (PySem.W.kitOne K (.ref (He.ga K "Right")) (.ref (He.ga K "Wrong")) = some false), fun K => isCB K (He.ga K "Wrong"), fun K => decide (PySem.W.kitOne K (.ref (He.ga K "Wrong")) (.ref (He.ga K "Answer")) = some true), fun K => decide (PySem.W.kitOne K (.ref (He.ga K "Wrong")) (.ref (He.ga K "Barred")) = some false), fun K => decide (PySem.W.kitOne K (.ref (He.ga K "Wrong")) (.ref (He.ga K "Right")) = some false), fun K => decide (PySem.W.kitOne K (.ref (He.ga K "Wrong")) (.ref (He.ga K "Spaced")) = some false), fun K => decide (PySem.W.kitOne K (.ref (He.ga K "Wrong")) (.ref (He.ga K "Wrong")) = some true), fun K => isCB K (He.ga K "Spaced"), fun K => decide (PySem.W.kitOne K (.ref (He.ga K "Spaced")) (.ref (He.ga K "Answer")) = some true), fun K => decide (PySem.W.kitOne K (.ref (He.ga K "Spaced")) (.ref (He.ga K "Barred")) = some false), fun K => decide (PySem.W.kitOne K (.ref (He.ga K "Spaced")) (.ref (He.ga K "Right")) = some false), fun K => decide (PySem.W.kitOne K (.ref (He.ga K "Spaced")) (.ref (He.ga K "Spaced")) = some true), fun K => decide (PySem.W.kitOne K (.ref (He.ga K "Spaced")) (.ref (He.ga K "Wrong")) = some false), fun K => isCB K (He.ga K "Barred"), fun K => decide (PySem.W.kitOne K (.ref (He.ga K "Barred")) (.ref (He.ga K "Answer")) = some true), fun K => decide (PySem.W.kitOne K (.ref (He.ga K "Barred")) (.ref (He.ga K "Barred")) = some true), fun K => decide (PySem.W.kitOne K (.ref (He.ga K "Barred")) (.ref (He.ga K "Right")) = some false), fun K => decide (PySem.W.kitOne K (.ref (He.ga K "Barred")) (.ref (He.ga K "Spaced")) = some false), fun K => decide (PySem.W.kitOne K (.ref (He.ga K "Barred")) (.ref (He.ga K "Wrong")) = some false)]
abbrev hk : PySem.W.Hook := hookY 4 fa fn ex
def ob (s : PySem.W.SharedT) : Bool × He.AlD := obsYG 4 fa fn ex (HandSHeadRun.getT s)
theorem ob_eq (s : PySem.W.SharedT) : ob s = hk.obs s.abs := obsYG_eq (HandSHeadRun.getT_eq s)
def loose0 : List Str := ["_wall", "__name__", "counts_of", "bars", "barring", "least_between", "keeps", "turns_in", "order_for", "TurnError", "BadMany", "BadSingers", "BadSong", "BadSongs", "BadGap", "TooMany", "MOST_SINGERS", "MOST_OF_SONG", "MOST_SONGS", "is_whole", "are_numbers", "check_many", "are_singers", "check_songs", "floor_of", "round_for", "in_turn", "Evening", "first_wrong", "Answer"]
def loose1 : List Str := ["Right", "Wrong", "Spaced", "Barred", "spaced", "_law_cell_at", "_law_draw", "_law_value", "_law_says", "_law_songs", "_law_keeps", "_law_bars", "_law_due", "_law_can", "_law_right"]
def loose : List Str := loose0 ++ loose1
theorem tx_of {K : PySem.W.Frag} {h : Heap} {mg : Str → Option Value} (X : K.In h) (G : h.Ns mainGlobals mg) (c : He.SaysD fa fn K) (c2 : exOk ex K = true) : Tx K mg :=
  ⟨He.glo_ok X G (c.fact 0 (f := .glo "counts_of") rfl),
   He.glo_ok X G (c.fact 1 (f := .glo "bars") rfl),
   He.glo_ok X G (c.fact 2 (f := .glo "barring") rfl),
   He.glo_ok X G (c.fact 3 (f := .glo "least_between") rfl),
   He.glo_ok X G (c.fact 4 (f := .glo "keeps") rfl),
   He.glo_ok X G (c.fact 5 (f := .glo "turns_in") rfl),
   He.glo_ok X G (c.fact 6 (f := .glo "order_for") rfl),
   He.glo_ok X G (c.fact 7 (f := .glo "TurnError") rfl),
   He.glo_ok X G (c.fact 8 (f := .glo "BadMany") rfl),
   He.glo_ok X G (c.fact 9 (f := .glo "BadSingers") rfl),
   He.glo_ok X G (c.fact 10 (f := .glo "BadSong") rfl),
   He.glo_ok X G (c.fact 11 (f := .glo "BadSongs") rfl),
   He.glo_ok X G (c.fact 12 (f := .glo "BadGap") rfl),
   He.glo_ok X G (c.fact 13 (f := .glo "TooMany") rfl),
   He.int_ok X G (c.fact 14 (f := .int "MOST_SINGERS" 6) rfl),
   He.int_ok X G (c.fact 15 (f := .int "MOST_OF_SONG" 3) rfl),
   He.int_ok X G (c.fact 16 (f := .int "MOST_SONGS" 24) rfl),
   He.glo_ok X G (c.fact 17 (f := .glo "is_whole") rfl),
   He.glo_ok X G (c.fact 18 (f := .glo "are_numbers") rfl),
   He.glo_ok X G (c.fact 19 (f := .glo "check_many") rfl),
   He.glo_ok X G (c.fact 20 (f := .glo "are_singers") rfl),
   He.glo_ok X G (c.fact 21 (f := .glo "check_songs") rfl),
   He.glo_ok X G (c.fact 22 (f := .glo "floor_of") rfl),
   He.glo_ok X G (c.fact 23 (f := .glo "round_for") rfl),
   He.glo_ok X G (c.fact 24 (f := .glo "in_turn") rfl),
   He.glo_ok X G (c.fact 25 (f := .glo "Evening") rfl),
   He.cls_ok (c.fact 26 (f := .cls "Evening") rfl),
   He.mkr_ok (c.fact 27 (f := .mkr "Evening") rfl),
   He.meth_ok (c.fact 28 (f := .meth "Evening" "wish") rfl),
   He.meth_ok (c.fact 29 (f := .meth "Evening" "sing") rfl),
   He.meth_ok (c.fact 30 (f := .meth "Evening" "look_at") rfl),
   He.meth_ok (c.fact 31 (f := .meth "Evening" "withdraw") rfl),
   He.meth_ok (c.fact 32 (f := .meth "Evening" "waits") rfl),
   He.meth_ok (c.fact 33 (f := .meth "Evening" "tale") rfl),
   He.noat_ok (c.fact 34 (f := .noat "Evening" "came") rfl),
   He.noat_ok (c.fact 35 (f := .noat "Evening" "going") rfl),
   He.noat_ok (c.fact 36 (f := .noat "Evening" "last") rfl),
   He.noat_ok (c.fact 37 (f := .noat "Evening" "rounds") rfl),
   He.noat_ok (c.fact 38 (f := .noat "Evening" "waiting") rfl),
   He.glo_ok X G (c.fact 39 (f := .glo "first_wrong") rfl),
   He.glo_ok X G (c.fact 40 (f := .glo "Answer") rfl),
   He.cls_ok (c.fact 41 (f := .cls "Answer") rfl),
   He.glo_ok X G (c.fact 42 (f := .glo "Right") rfl),
   He.cls_ok (c.fact 43 (f := .cls "Right") rfl),
   He.meth_ok (c.fact 44 (f := .meth "Right" "shows") rfl),
   He.glo_ok X G (c.fact 45 (f := .glo "Wrong") rfl),
   He.cls_ok (c.fact 46 (f := .cls "Wrong") rfl),
   He.mkr_ok (c.fact 47 (f := .mkr "Wrong") rfl),
   He.meth_ok (c.fact 48 (f := .meth "Wrong" "shows") rfl),
   He.noat_ok (c.fact 49 (f := .noat "Wrong" "place") rfl),
   He.glo_ok X G (c.fact 50 (f := .glo "Spaced") rfl),
   He.cls_ok (c.fact 51 (f := .cls "Spaced") rfl),
   He.mkr_ok (c.fact 52 (f := .mkr "Spaced") rfl),
   He.meth_ok (c.fact 53 (f := .meth "Spaced" "shows") rfl),
   He.noat_ok (c.fact 54 (f := .noat "Spaced" "order") rfl),
   He.glo_ok X G (c.fact 55 (f := .glo "Barred") rfl),
   He.cls_ok (c.fact 56 (f := .cls "Barred") rfl),
   He.mkr_ok (c.fact 57 (f := .mkr "Barred") rfl),
   He.meth_ok (c.fact 58 (f := .meth "Barred" "shows") rfl),
   He.noat_ok (c.fact 59 (f := .noat "Barred" "singers") rfl),
   He.glo_ok X G (c.fact 60 (f := .glo "spaced") rfl),
   He.glo_ok X G (c.fact 61 (f := .glo "_law_cell_at") rfl),
   He.glo_ok X G (c.fact 62 (f := .glo "_law_draw") rfl),
   He.glo_ok X G (c.fact 63 (f := .glo "_law_value") rfl),
   He.glo_ok X G (c.fact 64 (f := .glo "_law_says") rfl),
   He.glo_ok X G (c.fact 65 (f := .glo "_law_songs") rfl),
   He.glo_ok X G (c.fact 66 (f := .glo "_law_keeps") rfl),
   He.glo_ok X G (c.fact 67 (f := .glo "_law_bars") rfl),
   He.glo_ok X G (c.fact 68 (f := .glo "_law_due") rfl),
   He.glo_ok X G (c.fact 69 (f := .glo "_law_can") rfl),
   He.glo_ok X G (c.fact 70 (f := .glo "_law_right") rfl),
   He.glo_ok X G (c.fact 71 (f := .glo "law") rfl),
   He.free_ok X G (c.fact 72 (f := .free "len") rfl),
   He.free_ok X G (c.fact 73 (f := .free "isinstance") rfl),
   He.free_ok X G (c.fact 74 (f := .free "all") rfl),
   He.free_ok X G (c.fact 75 (f := .free "any") rfl),
   He.free_ok X G (c.fact 76 (f := .free "range") rfl),
   He.free_ok X G (c.fact 77 (f := .free "sorted") rfl),
   He.free_ok X G (c.fact 78 (f := .free "set") rfl),
   He.free_ok X G (c.fact 79 (f := .free "max") rfl),
   He.free_ok X G (c.fact 80 (f := .free "min") rfl),
   He.free_ok X G (c.fact 81 (f := .free "list") rfl),
   He.free_ok X G (c.fact 82 (f := .free "enumerate") rfl),
   He.free_ok X G (c.fact 83 (f := .free "zip") rfl),
   He.free_ok X G (c.fact 84 (f := .free "int") rfl),
   He.free_ok X G (c.fact 85 (f := .free "bool") rfl),
   He.free_ok X G (c.fact 86 (f := .free "tuple") rfl),
   He.free_ok X G (c.fact 87 (f := .free "str") rfl),
   He.free_ok X G (c.fact 88 (f := .free "dict") rfl),
   He.free_ok X G (c.fact 89 (f := .free "abs") rfl),
   c.def_ 0 (d := d_counts_of) rfl,
   c.def_ 1 (d := d_bars) rfl,
   c.def_ 2 (d := d_barring) rfl,
   c.def_ 3 (d := d_least_between) rfl,
   c.def_ 4 (d := d_keeps) rfl,
   c.def_ 5 (d := d_turns_in) rfl,
   c.def_ 6 (d := d_order_for) rfl,
   c.def_ 7 (d := d_is_whole) rfl,
   c.def_ 8 (d := d_are_numbers) rfl,
   c.def_ 9 (d := d_check_many) rfl,
   c.def_ 10 (d := d_are_singers) rfl,
   c.def_ 11 (d := d_check_songs) rfl,
   c.def_ 12 (d := d_floor_of) rfl,
   c.def_ 13 (d := d_round_for) rfl,
   c.def_ 14 (d := d_in_turn) rfl,
   c.def_ 15 (d := d_Evening___init__) rfl,
   c.def_ 16 (d := d_Evening_wish) rfl,
   c.def_ 17 (d := d_Evening_sing) rfl,
   c.def_ 18 (d := d_Evening_look_at) rfl,
   c.def_ 19 (d := d_Evening_withdraw) rfl,
   c.def_ 20 (d := d_Evening_waits) rfl,
   c.def_ 21 (d := d_Evening_tale) rfl,
   c.def_ 22 (d := d_first_wrong) rfl,
   c.def_ 23 (d := d_Right_shows) rfl,
   c.def_ 24 (d := d_Wrong___init__) rfl,
   c.def_ 25 (d := d_Wrong_shows) rfl,
   c.def_ 26 (d := d_Spaced___init__) rfl,
   c.def_ 27 (d := d_Spaced_shows) rfl,
   c.def_ 28 (d := d_Barred___init__) rfl,
   c.def_ 29 (d := d_Barred_shows) rfl,
   c.def_ 30 (d := d_spaced) rfl,
   c.def_ 31 (d := d__law_cell_at) rfl,
   c.def_ 32 (d := d__law_draw) rfl,
   c.def_ 33 (d := d__law_value) rfl,
   c.def_ 34 (d := d__law_says) rfl,
   c.def_ 35 (d := d__law_songs) rfl,
   c.def_ 36 (d := d__law_keeps) rfl,
   c.def_ 37 (d := d__law_bars) rfl,
   c.def_ 38 (d := d__law_due) rfl,
   c.def_ 39 (d := d__law_can) rfl,
   c.def_ 40 (d := d__law_right) rfl,
   c.def_ 41 (d := d_law) rfl,
   mkB_ok (exAll 0 c2 rfl),
   mkB_ok (exAll 1 c2 rfl),
   isCB_ok (exAll 2 c2 rfl),
   of_decide_eq_true (exAll 3 c2 rfl),
   of_decide_eq_true (exAll 4 c2 rfl),
   of_decide_eq_true (exAll 5 c2 rfl),
   of_decide_eq_true (exAll 6 c2 rfl),
   of_decide_eq_true (exAll 7 c2 rfl),
   isCB_ok (exAll 8 c2 rfl),
   of_decide_eq_true (exAll 9 c2 rfl),
   of_decide_eq_true (exAll 10 c2 rfl),
   of_decide_eq_true (exAll 11 c2 rfl),
   of_decide_eq_true (exAll 12 c2 rfl),
   of_decide_eq_true (exAll 13 c2 rfl),
   isCB_ok (exAll 14 c2 rfl),
   of_decide_eq_true (exAll 15 c2 rfl),
   of_decide_eq_true (exAll 16 c2 rfl),
   of_decide_eq_true (exAll 17 c2 rfl),
   of_decide_eq_true (exAll 18 c2 rfl),
   of_decide_eq_true (exAll 19 c2 rfl),
   isCB_ok (exAll 20 c2 rfl),
   of_decide_eq_true (exAll 21 c2 rfl),
   of_decide_eq_true (exAll 22 c2 rfl),
   of_decide_eq_true (exAll 23 c2 rfl),
   of_decide_eq_true (exAll 24 c2 rfl),
   of_decide_eq_true (exAll 25 c2 rfl),
   isCB_ok (exAll 26 c2 rfl),
   of_decide_eq_true (exAll 27 c2 rfl),
   of_decide_eq_true (exAll 28 c2 rfl),
   of_decide_eq_true (exAll 29 c2 rfl),
   of_decide_eq_true (exAll 30 c2 rfl),
   of_decide_eq_true (exAll 31 c2 rfl),
   isCB_ok (exAll 32 c2 rfl),
   of_decide_eq_true (exAll 33 c2 rfl),
   of_decide_eq_true (exAll 34 c2 rfl),
   of_decide_eq_true (exAll 35 c2 rfl),
   of_decide_eq_true (exAll 36 c2 rfl),
   of_decide_eq_true (exAll 37 c2 rfl)⟩
theorem run (w : World) : HandSHeadRun.RunEq R (PySem.W.view R.prog [53]) hk ob 6000 loose w := by
  intro os
  kernel_rfl
end Song

/-! ### End: the law's call, the head -/
namespace Song
open PySem L2
/-- the law's end over a head by facts, with the bound on the script's numbers -/
theorem walk_end {l : PySem.W.OpenLaw} {n k : Nat} {q : Program} {loose : List Str} {XP : (Str → Option Value) → Heap → Prop} {YP : World → Heap → Prop} {d : DefRec} {x : Str}
    (hn : l.most = some n) (hn2 : n ≤ sizeLine) (hdf : d.params.defaults = []) (hr : Room k callerA)
    (F : ∀ (w : World) (mg : Str → Option Value) (fa : Addr) (h : Heap), YP w h → h.Ns mainGlobals mg → mg d.name = some (.ref fa) →
      ∃ (K : PySem.W.Frag) (fd : FuncData) (sp : Sp), K.In h ∧ (∀ (s : Shared) (u : Value), BindsTo s fd ⟨[u], []⟩ [(x, u)]) ∧
        (∀ (H : Hp) (a : Addr) (ns : List Int), ns.length ≤ n → (∀ z ∈ ns, Builtin.Int.intBits z ≤ 1048576) → SqL K H a (ns.map V.int) → sp [.ref a] H (fun v _ => v = .bl true) fun _ _ _ => False) ∧
        ∀ base : Heap, K.In base → base.Ns mainGlobals mg → FnOk l.prog w K mg base CX0 k fa fd [x] sp) :
    PySem.W.WalkO q loose XP YP l.row.toRowW d [] (fun f vs => PySem.call f vs) := by
  refine Att.attach_callB hn hdf fun w s₀ s₁ mg mb fa o pm cd doc a vs ns G Y ho hd hcd hmg hobj hi hlen hbits hg => ?_
  obtain ⟨K, fd, sp, KX, hb, hsp, hF⟩ := F w mg fa _ Y G.T.g hmg
  exact law_call KX G.T.g G.T.b G.T.builtins G.T.nolimit hg hobj hi (Nat.le_trans hlen hn2) hr hF hb (fun H _ hS => hsp H a ns hlen hbits hS) fun H e s' z => z
theorem facts {P : Program} {w : World} {K : PySem.W.Frag} {h : Heap} {mg : Str → Option Value} {f : Addr} (X : K.In h) (G : h.Ns mainGlobals mg) (hfa : mg ("law" : Str) = some (.ref f)) (c : He.SaysD fa fn K) (c2 : exOk ex K = true) :
    ∃ fd : FuncData, (∀ (s : Shared) (v : Value), BindsTo s fd ⟨[v], []⟩ [("_law_script", v)]) ∧ ∀ base : Heap, K.In base → base.Ns mainGlobals mg → FnOk P w K mg base CX0 9 f fd ["_law_script"] (spLaw K) := by
  have T := tx_of X G c c2
  obtain ⟨fd, F⟩ := T.d_law
  have e : He.ga K "law" = f := by
    have z := T.g_law.symm.trans hfa
    injection z with z; injection z
  subst e
  have b := FunD.bindsA (ps := ["_law_script"]) F fun _ _ _ _ _ _ us hl => match us, hl with | [_], _ => rfl
  exact ⟨fd, fun s v => b s [v] rfl, fun base _ _ => ok_law0 (P := P) (w := w) (base := base) T F⟩
end Song
open PySem PySem.W PySem.Calls PyProof.Rows
set_option maxHeartbeats 0 in
theorem PySem.Challenge.cw_songturns_k05_whole_spaced_holds : PySem.Challenge.rw_songturns_k05_whole_spaced.Holds := by
  w_on; o_law
  refine HandSHeadRun.head_any (r := OpenLaw.row PySem.Challenge.rw_songturns_k05_whole_spaced) (q := view (OpenLaw.row PySem.Challenge.rw_songturns_k05_whole_spaced).prog [53]) (H := Song.hk) (ob := Song.ob) (M := 6000) (loose := Song.loose) (d := HandSHeadRun.topDef (OpenLaw.row PySem.Challenge.rw_songturns_k05_whole_spaced).prog 53) (kwd := []) Song.ob_eq
    (by kernel_rfl) (fun s => by kernel_rfl) Song.run (by kernel_rfl) (by kernel_rfl) (by kernel_rfl) (by rfl) (by first | assumption | decide +kernel) (by decide +kernel) ⟨rfl, rfl, rfl, rfl, rfl, by decide +kernel⟩ ?hw ?hc
  case hw => w_witness2
  case hc =>
    refine Song.walk_end (l := PySem.Challenge.rw_songturns_k05_whole_spaced) (n := 63) (k := 9) (x := "_law_script") rfl (by decide) (by kernel_rfl) ⟨rfl, by decide, by decide⟩ ?F
    intro w mg fa h Y G hmg0
    obtain ⟨K, KX, c, c2⟩ := Y
    have hmg : mg ("law" : PySem.Str) = some (.ref fa) := by
      have e : (HandSHeadRun.topDef (OpenLaw.row PySem.Challenge.rw_songturns_k05_whole_spaced).prog 53).name = ("law" : PySem.Str) := by kernel_rfl
      rw [← e]
      exact hmg0
    obtain ⟨fd, hb, hF⟩ := Song.facts (P := (PySem.Challenge.rw_songturns_k05_whole_spaced).prog) (w := w) KX G hmg c c2
    exact ⟨K, fd, Song.spLaw K, KX, hb, fun H a ns hl hz hS => ⟨a, ns, rfl, hS, ⟨hl, fun z hm => Song.Bits.of_int (hz z hm)⟩, fun _ => rfl⟩, hF⟩
#print axioms PySem.Challenge.cw_songturns_k05_whole_spaced_holds
