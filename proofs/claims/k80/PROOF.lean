import PyProof.Rows.All
import Wide.All
import OpenK.AllK
import Wide.FinOn
import PyProof.EqAt
import PyProof.EqKinds
import PyProof.TupleCall
import PyProof.ReprRoads
import KE.KStateDown
import KE.KExcSuper
import KE.SortData
import KE.KDictCopyH
import Lean
import HandS.ForMost
import HandS.ForExc
import HandS.Flow
import HandS.Style
import HandS.Sort
import HandS.SortOrd
import HandS.SortRule
import HandS.SortInts
import HandS.Strs
import HandS.SetFor
import HandS.SetKeys
import HandS.Star
import HandS.DictComp
import HandS.DeepEq
import HandS.Conv
import HandS.IsInst
import HandS.ExcInit
import HandS.ExcIs
import HandS.ExcField
import HandS.TryMany
import HandS.More
import HandS.Codes
import HandS.CallSlots
import HandS.Defaults
import HandS.Head0
import HandS.Head1
import HandS.Head2
import HandS.HeadEnd
import HandS.HeadHook1
import HandS.HeadHook2
import HandS.Walk
import KE.KExcIs
import HandS.ExcCtx
import HandS.Hot
import HandS.HotCalls
import PySem.Challenge.RW_forkedshelves_k80_items_by_two_roads
set_option Elab.async false
set_option linter.all false
set_option maxRecDepth 100000
section
set_option maxHeartbeats 4000000
/-! Rules that the layer lacks: calls of defs by a bundle, a star over a dict, set(list of ints). -/
namespace Inf
open PySem PySem.Spec PyProof.Rows L2
theorem sz {n : Nat} (h : n ≤ 100000) : n ≤ sizeLine := Nat.le_trans h (by decide)
theorem szl {n : Nat} (h : n < 100000) : n < sizeLine := Nat.lt_of_lt_of_le h (by decide)

/-! ### a def of the module that keeps a promise -/
abbrev FnP (K : PySem.W.Frag) (x qual : Str) (st : Stmt) (f : Addr) (fd : FuncData) : Prop := FunD K x qual (defArgs st) (defBody st) (defScope st) [] [] f fd
theorem okN {P : Program} {w : World} {K : PySem.W.Frag} {mg : Str → Option Value} {base : Heap} {f : Addr} {fd : FuncData} {x qual : Str} {st : Stmt} {N ps : List Str} {k : Nat} {sp : Sp} (F : FnP K x qual st f fd) (S : FnScope N ps (defScope st))
    (len : ∀ vs H Q E, sp vs H Q E → vs.length = ps.length)
    (body : ∀ (cdv : Value) (A : Around) (outer : List Env) (s : Shared) (H : Hp) (vs : List V) (Q : VK) (E : XK), Room k (A.deeper (envOfC qual (defScope st) s.heap.objs.size f cdv)) → sp vs H Q E →
      ∃ t, PSs (cxOf CX0 P w K mg base N qual (defScope st) f cdv A outer s H E).nox (defBody st) t ∧ t { nx := fun _ H' => Q .non H', rt := Q } (start N vs) H) : FnOk P w K mg base CX0 (k + 1) f fd ps sp :=
  FunD.ok F S len fun cdv A outer s H vs Q E hr h => let ⟨t, a, b⟩ := body cdv A outer s H vs Q E hr h; ⟨t, a.nox, b⟩
/-- .. of a def that may raise -/
theorem okX {P : Program} {w : World} {K : PySem.W.Frag} {mg : Str → Option Value} {base : Heap} {f : Addr} {fd : FuncData} {x qual : Str} {st : Stmt} {N ps : List Str} {k : Nat} {sp : Sp} (F : FnP K x qual st f fd) (S : FnScope N ps (defScope st))
    (len : ∀ vs H Q E, sp vs H Q E → vs.length = ps.length)
    (body : ∀ (cdv : Value) (A : Around) (outer : List Env) (s : Shared) (H : Hp) (vs : List V) (Q : VK) (E : XK), Room k (A.deeper (envOfC qual (defScope st) s.heap.objs.size f cdv)) → sp vs H Q E →
      ∃ t, PSs (cxOf (L2.CX P w) P w K mg base N qual (defScope st) f cdv A outer s H E) (defBody st) t ∧ t { nx := fun _ H' => Q .non H', rt := Q } (start N vs) H) : FnOk P w K mg base (L2.CX P w) (k + 1) f fd ps sp :=
  FunD.ok F S len body
structure Has (P : Program) (w : World) (K : PySem.W.Frag) (mg : Str → Option Value) (base : Heap) (CX : CXT) (k : Nat) (x : Str) (sp : Sp) : Prop where
  ex : ∃ (f : Addr) (fd : FuncData) (ps : List Str), mg x = some (.ref f) ∧ FnOk P w K mg base CX k f fd ps sp ∧ Binds K fd ps [] ∧ PySem.W.keepIn K (.ref f) = true
theorem pe_c {X : Cx} {k j : Nat} {x : Str} {sp : Sp} {e : Expr} {es : List Expr} {t : TA} {p pos : Pos} (G : Has X.prog X.w X.K X.mg X.base CX0 j x sp) (hr : Room k X.A) (ha : PA X (e :: es) t) (hjk : j ≤ k := by decide) (hg : Gl X x := by rfl)
    (hdb : (x == ("__debug__" : Str)) = false := by decide) (he : starEach (e :: es) X.env = (false, eval e X.env) :: starEach es X.env := by rfl) (hpl : (backTo pos (starEach es X.env)).any (·.1) = false := by rfl) :
    PE X (.Call (.Name x p) (e :: es) [] pos) (tCall sp [] E0 t) := by
  obtain ⟨f, fd, ps, hm, F, b, kp⟩ := G.ex
  exact pe_call F (hr.mono hjk) hg hm kp b .nil pass0 ha hdb he hpl
/-- .. that may raise: E says what is wanted then -/
theorem pe_cx {X : Cx} {CX : CXT} {k j : Nat} {x : Str} {sp : Sp} {E : XK} {e : Expr} {es : List Expr} {t : TA} {p pos : Pos} (G : Has X.prog X.w X.K X.mg X.base CX j x sp) (hr : Room k X.A) (hx : Passes CX X E) (ha : PA X (e :: es) t) (hjk : j ≤ k := by decide) (hg : Gl X x := by rfl)
    (hdb : (x == ("__debug__" : Str)) = false := by decide) (he : starEach (e :: es) X.env = (false, eval e X.env) :: starEach es X.env := by rfl) (hpl : (backTo pos (starEach es X.env)).any (·.1) = false := by rfl) :
    PE X (.Call (.Name x p) (e :: es) [] pos) (tCall sp [] E t) := by
  obtain ⟨f, fd, ps, hm, F, b, kp⟩ := G.ex
  exact pe_call F (hr.mono hjk) hg hm kp b .nil hx ha hdb he hpl
/-- a method of the class at C -/
structure HasM (P : Program) (w : World) (K : PySem.W.Frag) (mg : Str → Option Value) (base : Heap) (CX : CXT) (k : Nat) (C : Addr) (m : Str) (sp : Sp) : Prop where
  cl : Cls K C
  ex : ∃ (f : Addr) (fd : FuncData) (ps : List Str), Meth K C m f ∧ FnOk P w K mg base CX k f fd ps sp ∧ Binds K fd ps []
theorem pe_mt {X : Cx} {k j : Nat} {C : Addr} {m : Str} {sp : Sp} {e o : Expr} {es : List Expr} {ta : TE} {t : TA} {pos apos : Pos} {pl : Sem Bool} (G : HasM X.prog X.w X.K X.mg X.base CX0 j C m sp) (hr : Room k X.A) (ho : PE X o ta) (ha : PA X (e :: es) t) (hjk : j ≤ k := by decide)
    (hst : starEach (e :: es) X.env = (false, eval e X.env) :: starEach es X.env := by rfl) (hpl : (backTo pos (starEach es X.env)).any (·.1) = false := by rfl)
    (ht : eval (.Call (.Attribute o m apos) (e :: es) [] pos) X.env = (do
      let ov ← eval o X.env
      standAt apos.atName
      let (f, first) ← holding [ov] (getMethod ov m pl)
      callWith pos f first (backTo pos (starEach (e :: es) X.env)) (backToKw pos (keywordEach [] X.env))) := by rfl) :
    PE X (.Call (.Attribute o m apos) (e :: es) [] pos) (tMeth C m sp [] E0 ta t) := by
  obtain ⟨f, fd, ps, hm, F, b⟩ := G.ex
  exact pe_meth (pl := pl) ho G.cl hm F (hr.mono hjk) b .nil pass0 ha hst hpl ht
/-- either reading of one expression -/
theorem pe_or2 {X : Cx} {e : Expr} {t u : TE} (h1 : PE X e t) (h2 : PE X e u) : PE X e (fun σ H Q => t σ H Q ∨ u σ H Q) :=
  ⟨fun pins s σ H Q I h => h.elim (h1.run pins s σ H Q I) (h2.run pins s σ H Q I)⟩
/-- a class that is made by its own __init__ -/
structure HasC (P : Program) (w : World) (K : PySem.W.Frag) (mg : Str → Option Value) (base : Heap) (CX : CXT) (k : Nat) (x : Str) (C : Addr) (sp : Sp) : Prop where
  cl : Cls K C
  gl : mg x = some (.ref C)
  ex : ∃ (f : Addr) (fd : FuncData) (ps : List Str), Mk K C f ∧ FnOk P w K mg base CX k f fd ps sp ∧ Binds K fd ps []
theorem pe_mk {X : Cx} {k j : Nat} {x : Str} {C : Addr} {sp : Sp} {e : Expr} {es : List Expr} {t : TA} {p pos : Pos} (G : HasC X.prog X.w X.K X.mg X.base CX0 j x C sp) (hr : Room k X.A) (ha : PA X (e :: es) t) (hjk : j + 1 ≤ k := by decide) (hg : Gl X x := by rfl)
    (hdb : (x == ("__debug__" : Str)) = false := by decide) (he : starEach (e :: es) X.env = (false, eval e X.env) :: starEach es X.env := by rfl) (hpl : (backTo pos (starEach es X.env)).any (·.1) = false := by rfl) :
    PE X (.Call (.Name x p) (e :: es) [] pos) (tMake C sp [] E0 t) := by
  obtain ⟨f, fd, ps, M, F, b⟩ := G.ex
  exact pe_make M F (hr.mono hjk) hg G.gl b .nil pass0 ha hdb he hpl

/-! ### *d of a dict -/
section
variable {prog : Program} {w : World} {A : Around} {E : Value → Shared → Prop} {s : Shared} {T : String} {r d : Addr} {n : Nat} {Pv : Nat → Value → Prop} {OK : Heap → Prop}
theorem collect_src {R : List Value → Shared → Prop} (K : PySem.W.KdlSrc prog w T r d n Pv OK) (hh : A.handled = none) (hok : OK s.heap) (hn : n ≤ sizeLine)
    (hq : ∀ (h' : Heap) (tk : Nat) (acc : Array Value), (∀ b o, s.heap.get? b = some o → h'.get? b = some o) → ItemsOf Pv acc n → R acc.toList { s with heap := h', toks := tk }) :
    wpAny (model prog w) A (collect (.ref r)) R E s := by
  unfold collect
  refine wpAny_bind (wpAny_runValue (codeAny_builtin F.entry_proto_collect ?_))
  rw [Around.under_plainId F.plain_proto_collect _]
  refine wpAny_bind (m := newList []) (wpAny_newObj_type ?_)
  refine wpAny_pure ⟨plainId_quiet F.plain_list_iadd _, codeAny_builtin F.entry_list_iadd ?_⟩
  rw [Around.under_plainId F.plain_list_iadd _]
  have new : (s.heap.push { cls := .type "list", data := .seq ([] : List Value).toArray }).get? s.heap.objs.size = some { cls := .type "list", data := .seq #[] 0 } := Heap.get?_push_size _ rfl
  have lt := K.there _ hok
  refine wpAny_mono (PySem.W.kdl_extend (A := A) (s := { s with heap := s.heap.push { cls := .type "list", data := .seq ([] : List Value).toArray } }) (R := fun rr s' => rr = .ok (.ret (.ref s.heap.objs.size)) ∧
      ∃ (h' : Heap) (tk : Nat) (acc : Array Value) (c' : Nat), s' = { s with heap := h', toks := tk } ∧ (∀ b o, s.heap.get? b = some o → h'.get? b = some o) ∧
        h'.get? s.heap.objs.size = some { cls := .type "list", dict := none, data := .seq acc c', slots := #[] } ∧ ItemsOf Pv acc n)
    K hh (K.keep _ _ hok fun b _ o e => Heap.get?_push_of_some _ e) s.heap.objs.size (Nat.ne_of_gt lt.1) (Nat.ne_of_gt lt.2) (.ref s.heap.objs.size) 0 new
    (fun h' tk acc c' k e i => ⟨rfl, h', tk, acc, c', rfl, fun b o q => k b o (Nat.ne_of_lt (Heap.lt_size q)) (Heap.get?_push_of_some _ q), e, i⟩) hn) (fun fin s' z => ?_) (fun e s' z => absurd z.1 (by simp))
  cases fin with
  | done f =>
    obtain ⟨e, h', tk, acc, c', rfl, k, q, i⟩ := z
    cases e
    exact wpAny_bind (m := load s.heap.objs.size) (wpAny_load q (wpAny_pure (hq h' tk acc k i)))
  | again c' =>
    refine ⟨z.1, codeAny_mono z.2 fun rr s'' hr => ?_⟩
    obtain ⟨rfl, h', tk, acc, c', rfl, k, q, i⟩ := hr
    exact wpAny_bind (m := load s.heap.objs.size) (wpAny_load q (wpAny_pure (hq h' tk acc k i)))
end
def tStarD (te : TE) (t : TA) : TA := fun σ H Q => te σ H fun x H1 => ∃ p kvs, x = V.ref p ∧ H1 p = some (.dK kvs) ∧ t σ H1 fun ys H2 => Q (kvs.map (fun kv => kV kv.1) ++ ys) H2
theorem pa_starD {X : Cx} {e : Expr} {es : List Expr} {te : TE} {t : TA} {p : Pos} (hc : X.calm = true) (he : PE X e te) (hr : PA X es t) (hs : starEach (.Starred e p :: es) X.env = (true, eval e X.env) :: starEach es X.env := by rfl) : PA X (.Starred e p :: es) (tStarD te t) := by
  refine ⟨fun pos pins s σ H Q I h => ?_⟩
  refine PySem.W.items_star (thn (he.run pins s σ H _ I h) fun v s1 ⟨y, H1, I1, ry, a, kvs, ey, hk, q⟩ => ?_) hs
  subst ey
  obtain rfl : v = Value.ref a := ry
  obtain ⟨z, lo, vs, rk, hd⟩ := (show ObjOk X.prog X.w H1 s1.heap a (.dK kvs) from I1.hok a _ hk)
  obtain ⟨ep, hat⟩ := hd.dictAt
  have hl : kvs.length = vs.length := Paired.length rk
  have hT : s1.TypeIs (.ref a) "dict" := hat.dictOf.typeIs
  have key : wpAny (model X.prog X.w) X.A (collect (.ref a)) (fun us s2 => Inv X pins σ H1 s2 ∧ Vals (kvs.map fun kv => kV kv.1) us) X.xe s1 := by
    refine collect_src (PySem.W.kdl_dict (knd := mixKind X.prog X.w) (kvs := vs) (ep := ep) lo) (I1.ok.hd hc) hat (by rw [← hl]; exact z) fun h' tk acc k i => ⟨I1.kept (t' := tk) k, ?_⟩
    have el : acc.toList.length = acc.size := by simp
    refine vals_of_at (by rw [List.length_map, el, i.1, hl]) fun j x u h1 h2 => ?_
    obtain ⟨c, y, hky, hi⟩ := i.2 j u (by rw [← Array.getElem?_toList]; exact h2)
    have e1 : (kvs.map (·.1))[j]? = some c := by
      rw [KV.keys rk, List.getElem?_map, hky] <;> rfl
    have e2 : (kvs.map fun kv => kV kv.1)[j]? = some (kV c) := by
      have e3 : (kvs.map fun kv => kV kv.1) = (kvs.map (·.1)).map kV := by rw [List.map_map] <;> rfl
      rw [e3, List.getElem?_map, e1] <;> rfl
    rw [e2] at h1
    cases h1
    rcases keyIs_shape (show keyIs c u = true from hi) with ⟨i0, t0, rfl, rfl⟩ | ⟨x0, t0, rfl, rfl⟩
    · exact ⟨t0, rfl⟩
    · exact ⟨t0, rfl⟩
  unfold PySem.W.StarOf notIterableAtAll
  refine wpAny_bind (wpAny_specialOf hT PySem.F.slot_dict_iter.lookup (wpAny_pure ⟨rfl, thn key fun us s2 ⟨I2, rv⟩ => ?_⟩))
  exact thn (hr.run pos pins s2 σ H1 _ I2 q) fun ws s3 ⟨xs, H3, I3, r3, q3⟩ => ⟨_, H3, I3, rv.append r3, q3⟩

/-! ### set(xs) of a list of ints -/
section
variable {P : Program} {w : World} {A : Around} {E : Value → Shared → Prop} {s : Shared}
abbrev newSet (w : World) : Obj := { cls := .type "set", dict := none, data := .set #[] 0 (.fresh 0 0 (!w.params.followText "set-order")) }
set_option maxHeartbeats 6400000 in
theorem call_set_ints {l : Addr} {items : Array Value} (ns : List Int) {Q : Value → Shared → Prop} (hh : A.handled = none) (hl : s.heap.IsList l items) (hit : IntsAre items.toList ns) (hb : ns.length + 1 < scanBound)
    (h : ∀ (h' : Heap) (tk c : Nat), SetR w h' s.heap.objs.size (fun j => decide (j ∈ ns)) c → c ≤ ns.length → (∀ b o, s.heap.get? b = some o → h'.get? b = some o) → Q (.ref s.heap.objs.size) { s with heap := h', toks := tk }) :
    wpAny (model P w) A (call (.type "set") [.ref l]) Q E s := by
  have cnt : items.size = ns.length := by
    have q := IntsAre.length hit
    rwa [Array.length_toList] at q
  obtain ⟨c, tl, hmro⟩ := F.called_set.mro
  have hmade := F.called_set.made
  have hsub := F.called_set.sub
  refine wpAny_call (codeAny_of_tree (wpAny_pure ⟨Code.quiet_builtin _ (by decide +kernel), codeAny_builtin F.entry_type_call ?_⟩))
  rw [Around.under_plain (weight_type_call_type "set" [.ref l] []) rfl]
  have h1 := F.called_set.notType
  have h2 := F.called_set.canCreate
  have hct := F.typeCall_set_1 (.ref l)
  repeat (any_goals (first | assumption | wp_step))
  refine codeAny_mono (code_set_led1 (.ref l) (E := E) (Q₁ := fun obj t => obj = .ref s.heap.objs.size ∧ t = { s with heap := s.heap.push (newSet w) }) ⟨rfl, rfl⟩) fun r t hr => ?_
  have dead : ∀ {X : Prop}, False → X := fun z => z.elim
  cases r with
  | error e => exact hr
  | ok fl =>
    cases fl with
    | ret obj =>
      obtain ⟨rfl, rfl⟩ := hr
      have new : (s.heap.push (newSet w)).get? s.heap.objs.size = some (newSet w) := Heap.get?_push_size _ rfl
      have isS : Shared.TypeIs { s with heap := s.heap.push (newSet w) } (.ref s.heap.objs.size) "set" := ⟨_, new, rfl⟩
      have hli := F.called_set.init.lookup
      have hbi := F.called_set.init.bind (.ref s.heap.objs.size)
      repeat (any_goals (first | assumption | wp_step))
      refine codeAny_mono (codeAny_call_builtin (R := wants (fun r t => r = .none ∧ ∃ h' tk c, t = { s with heap := h', toks := tk } ∧ SetR w h' s.heap.objs.size (fun j => decide (j ∈ ns)) c ∧ c ≤ ns.length ∧
          (∀ b o, s.heap.get? b = some o → h'.get? b = some o)) E) F.called_set.init.plain F.entry_set_init (check_set_init_1 isS ?_)) fun r2 t2 hr2 => ?_
      · obtain ⟨⟨ocls, odict, odata, oslots⟩, hol, hcl, nl, hdl⟩ := hl
        simp only at hcl hdl
        subst hcl hdl
        have hol' : (s.heap.push (newSet w)).get? l = some { cls := .type "list", dict := odict, data := .seq items nl, slots := oslots } := Heap.get?_push_of_some _ hol
        have b1 := F.sub_list_set
        have b2 := F.sub_list_frozenset
        have b3 : (Value.type "list" == Value.type "dict") = false := by decide
        have hl1 : (s.heap.push (newSet w)).IsList l items := ⟨_, hol', rfl, nl, rfl⟩
        unfold Builtin.«set.__init__» noKeywords Builtin.Frozenset.updateFrom
        generalize hPI : pyIter = PI
        wp_walk
        subst hPI
        refine wpAny_pyIter_list hl1 ?_
        refine wpAny_bind (wpAny_runValue ?_)
        have lt : l < s.heap.objs.size := Heap.lt_size hol
        have hh3 : A.in1.in1.in1.handled = none := by simp [hh]
        have sz1 : (s.heap.push (newSet w)).objs.size = s.heap.objs.size + 1 := Heap.size_push ..
        have neI : l ≠ (s.heap.push (newSet w)).objs.size := by rw [sz1]; exact Nat.ne_of_lt (Nat.lt_succ_of_lt lt)
        have out : s.heap.objs.size ∉ [(s.heap.push (newSet w)).objs.size, l] := by
          rw [sz1]
          intro m
          rcases List.mem_cons.mp m with e | e
          · exact Nat.ne_of_lt (Nat.lt_succ_self _) e
          · exact Nat.ne_of_gt lt (List.mem_singleton.mp e)
        have val : ∀ (i : Nat) (v : Value), items[i]? = some v → ∃ k t, ns[i]? = some k ∧ v = .int k t := fun i v hv => by
          have hi : i < ns.length := by rw [← cnt]; exact (Array.getElem?_eq_some_iff.mp hv).1
          obtain ⟨t, e⟩ := PyProof.Rows.IntsAre.int_at hit i v (by rw [Array.getElem?_toList]; exact hv)
          refine ⟨ns[i], t, List.getElem?_eq_getElem hi, ?_⟩
          rw [e, List.getD_eq_getElem?_getD, List.getElem?_eq_getElem hi] <;> rfl
        refine set_update_ints ((Walks.list hh3 _ l neI items).toS) s.heap.objs.size out ns cnt hb val (items.size - 0) 0 _ (by omega) (Nat.zero_le _) ⟨⟨_, Heap.get?_push_size _ rfl, rfl, rfl⟩, (hl1.push _)⟩ ?hS0 ?hR
        case hS0 => exact ⟨0, Nat.le_refl 0, setR_new_at (Heap.get?_push_of_some _ new)⟩
        case hR =>
          intro s' c' hm hc' hS'
          obtain ⟨h', g2, d', tk', os'⟩ := s'
          have eg : g2 = s.gens := hm.gens
          have ed : d' = s.drawn := hm.drawn
          have eo : os' = s.os := hm.os
          subst eg ed eo
          rw [cnt] at hc'
          refine wpAny_pure (wpAny_pure ⟨rfl, h', tk', c', rfl, hS', hc', fun b o e => ?_⟩)
          have b0 : b < s.heap.objs.size := Heap.lt_size e
          refine hm.heap b o (fun m => ?_) (Heap.get?_push_of_some _ (Heap.get?_push_of_some _ e))
          rcases List.mem_cons.mp m with z | z
          · exact Nat.ne_of_lt b0 z
          · have z2 := List.mem_singleton.mp z
            have z3 : b = (s.heap.push (newSet w)).objs.size := z2
            rw [sz1] at z3
            exact Nat.ne_of_lt (Nat.lt_succ_of_lt b0) z3
      · cases r2 with
        | error e => exact hr2
        | ok fl2 =>
          cases fl2 with
          | ret r =>
            obtain ⟨rfl, h', tk, c, rfl, hS', hc', hk'⟩ := hr2
            repeat (any_goals (first | assumption | wp_step))
            exact h _ _ _ hS' hc' hk'
          | _ => exact hr2.elim
    | _ => exact hr.elim
end
def rSetL (K : PySem.W.Frag) (w : World) : List V → Hp → VK → Prop := fun xs H Q => ∃ (l : Addr) (ns : List Int), xs = [.ref l] ∧ SqL K H l (ns.map V.int) ∧ ns.length ≤ 1000 ∧
  ∀ (p : Addr) (c : Nat), H p = none → c ≤ ns.length → Q (.ref p) (upd H p (SetO w p (fun j => decide (j ∈ ns)) c))
theorem call_set_of {X : Cx} (hc : X.calm = true) : CallR X (.type "set") (rSetL X.K X.w) := by
  intro pins s σ H xs us Q I r h
  obtain ⟨l, ns, rfl, hl, hz, q⟩ := h
  obtain ⟨u, rfl, ru⟩ := vals1 r
  obtain rfl : u = Value.ref l := ru
  obtain ⟨its, rv, pl, _⟩ := I.list hl
  refine call_set_ints ns (I.ok.hd hc) pl.isList (by simpa using Vals.ints rv) (by unfold scanBound; omega) fun h' tk c R hc k => ?_
  exact ⟨.ref _, upd H s.heap.objs.size (SetO X.w s.heap.objs.size (fun j => decide (j ∈ ns)) c), I.laid (t' := tk) k (Nat.le_refl _) (setO_new R), rfl, q _ c (I.hok.fresh (Nat.le_refl _)) hc⟩
end Inf
end
section
set_option maxHeartbeats 4000000
/-! == and != of nested lists, tuples and dicts that are equal. -/
namespace Inf
open PySem PySem.Spec PyProof.Rows L2
open AutoSeq1 (wpAny_loadPart')
open MeetsSeq MeetsSeq2 MeetsSeq3 SeqRoads2
section
variable {prog : Program} {w : World} {A : Around} {s : Shared}
/-- both comparisons of two tuples of one size whose items are equal -/
theorem tuple_same (l b : Addr) (items items2 : Array Value) (n n2 : Nat) (dd dd2 : Option Addr) (sl sl2 : Array (Option Value)) (hsz : items.size = items2.size) :
    MeetsIn prog w (Builtin.«tuple.__eq__» ⟨[.ref l, .ref b], []⟩)
      (fun A R s => s.heap.get? l = some { cls := .type "tuple", dict := dd, data := .seq items n, slots := sl } ∧ s.heap.get? b = some { cls := .type "tuple", dict := dd2, data := .seq items2 n2, slots := sl2 } ∧
        (∀ j (h1 : j < items.size) (h2 : j < items2.size), SeqAt.EqP prog w A.in1 s items[j] items2[j] true) ∧ R (.ok (.ret (.bool true))) s) := by
  intro A R s h
  obtain ⟨hp, g, d, tk, os⟩ := s
  obtain ⟨hl, hb, he, h⟩ := h
  have f2 := AutoSeq1.sub_tuple_tuple
  have hZ : (items.toList.zip items2.toList).length = items.size := by simp [hsz]
  wp_walk using wpAny_loadPart' hl, wpAny_loadPart' hb, wpAny_forIn_list _ (fun rest b s' => b.1 = none ∧ s' = ⟨hp, g, d, tk, os⟩ ∧ ∃ i, rest = (items.toList.zip items2.toList).drop i) _
  case turn =>
    rintro ⟨y, x⟩ rest b s' ⟨hb', rfl, i, hz⟩
    have hlt : i < (items.toList.zip items2.toList).length := by
      rcases Nat.lt_or_ge i (items.toList.zip items2.toList).length with z | z
      · exact z
      · rw [List.drop_of_length_le z] at hz; cases hz
    have h1 : i < items.size := hZ ▸ hlt
    have h2 : i < items2.size := hsz ▸ h1
    rw [List.drop_eq_getElem_cons hlt] at hz
    injection hz with hyx hrest
    have hy : y = items[i] := by have := congrArg Prod.fst hyx; simpa using this
    have hx : x = items2[i] := by have := congrArg Prod.snd hyx; simpa using this
    subst hy hx
    refine wpAny_bind (he i h1 h2 _ _ ?_)
    wp_walk
    exact ⟨rfl, rfl, i + 1, hrest⟩
  case fin =>
    rintro ⟨b1, b2⟩ s' ⟨hb', rfl, i, hz⟩
    simp only at hb'
    subst hb'
    wp_walk
    simpa [Builtin.Tuple.tupleCompareSizes, hsz] using h
  case h => exact ⟨rfl, rfl, 0, rfl⟩
theorem tuple_same_ne (l b : Addr) (items items2 : Array Value) (n n2 : Nat) (dd dd2 : Option Addr) (sl sl2 : Array (Option Value)) (hsz : items.size = items2.size) :
    MeetsIn prog w (Builtin.«tuple.__ne__» ⟨[.ref l, .ref b], []⟩)
      (fun A R s => s.heap.get? l = some { cls := .type "tuple", dict := dd, data := .seq items n, slots := sl } ∧ s.heap.get? b = some { cls := .type "tuple", dict := dd2, data := .seq items2 n2, slots := sl2 } ∧
        (∀ j (h1 : j < items.size) (h2 : j < items2.size), SeqAt.EqP prog w A.in1 s items[j] items2[j] true) ∧ R (.ok (.ret (.bool false))) s) := by
  intro A R s h
  obtain ⟨hp, g, d, tk, os⟩ := s
  obtain ⟨hl, hb, he, h⟩ := h
  have f2 := AutoSeq1.sub_tuple_tuple
  have hZ : (items.toList.zip items2.toList).length = items.size := by simp [hsz]
  wp_walk using wpAny_loadPart' hl, wpAny_loadPart' hb, wpAny_forIn_list _ (fun rest b s' => b.1 = none ∧ s' = ⟨hp, g, d, tk, os⟩ ∧ ∃ i, rest = (items.toList.zip items2.toList).drop i) _
  case turn =>
    rintro ⟨y, x⟩ rest b s' ⟨hb', rfl, i, hz⟩
    have hlt : i < (items.toList.zip items2.toList).length := by
      rcases Nat.lt_or_ge i (items.toList.zip items2.toList).length with z | z
      · exact z
      · rw [List.drop_of_length_le z] at hz; cases hz
    have h1 : i < items.size := hZ ▸ hlt
    have h2 : i < items2.size := hsz ▸ h1
    rw [List.drop_eq_getElem_cons hlt] at hz
    injection hz with hyx hrest
    have hy : y = items[i] := by have := congrArg Prod.fst hyx; simpa using this
    have hx : x = items2[i] := by have := congrArg Prod.snd hyx; simpa using this
    subst hy hx
    refine wpAny_bind (he i h1 h2 _ _ ?_)
    wp_walk
    exact ⟨rfl, rfl, i + 1, hrest⟩
  case fin =>
    rintro ⟨b1, b2⟩ s' ⟨hb', rfl, i, hz⟩
    simp only at hb'
    subst hb'
    wp_walk
    simpa [Builtin.Tuple.tupleCompareSizes, hsz, bne] using h
  case h => exact ⟨rfl, rfl, 0, rfl⟩
theorem rc_tuples {l b : Addr} {items items2 : Array Value} (hl : s.heap.IsTuple l items) (hb : s.heap.IsTuple b items2) (hsz : items.size = items2.size) (hu : A.units < cLine)
    (he : ∀ j (h1 : j < items.size) (h2 : j < items2.size), SeqAt.EqP prog w A.in1 s items[j] items2[j] true) (E Q : Value → Shared → Prop) (h : Q (.bool true) s) : wpAny (model prog w) A (richCompare .Eq (.ref l) (.ref b)) Q E s := by
  obtain ⟨⟨cls, dd, data, sl⟩, ho, hc, n, hd⟩ := id hl
  obtain ⟨⟨cls2, dd2, data2, sl2⟩, ho2, hc2, n2, hd2⟩ := id hb
  simp only at hc hd hc2 hd2
  subst hc hd hc2 hd2
  have ta : s.TypeIs (.ref l) "tuple" := ⟨_, ho, rfl⟩
  have tb : s.TypeIs (.ref b) "tuple" := ⟨_, ho2, rfl⟩
  exact wpAny_richCompare_same_room (op := .Eq) ta tb F.slot_tuple_eq (call_meetsIn F.slot_tuple_eq ta F.entry_tuple_eq (F.args_tuple_eq_2 _ _) (tuple_same l b items items2 n n2 dd dd2 sl sl2 hsz) ⟨ho, ho2, he, ⟨(fun x => nomatch x), h⟩⟩) hu
theorem rc_tuples_ne {l b : Addr} {items items2 : Array Value} (hl : s.heap.IsTuple l items) (hb : s.heap.IsTuple b items2) (hsz : items.size = items2.size) (hu : A.units < cLine)
    (he : ∀ j (h1 : j < items.size) (h2 : j < items2.size), SeqAt.EqP prog w A.in1 s items[j] items2[j] true) (E Q : Value → Shared → Prop) (h : Q (.bool false) s) : wpAny (model prog w) A (richCompare .NotEq (.ref l) (.ref b)) Q E s := by
  obtain ⟨⟨cls, dd, data, sl⟩, ho, hc, n, hd⟩ := id hl
  obtain ⟨⟨cls2, dd2, data2, sl2⟩, ho2, hc2, n2, hd2⟩ := id hb
  simp only at hc hd hc2 hd2
  subst hc hd hc2 hd2
  have ta : s.TypeIs (.ref l) "tuple" := ⟨_, ho, rfl⟩
  have tb : s.TypeIs (.ref b) "tuple" := ⟨_, ho2, rfl⟩
  exact wpAny_richCompare_same_room (op := .NotEq) ta tb F.slot_tuple_ne (call_meetsIn F.slot_tuple_ne ta F.entry_tuple_ne (F.args_tuple_ne_2 _ _) (tuple_same_ne l b items items2 n n2 dd dd2 sl sl2 hsz) ⟨ho, ho2, he, ⟨(fun x => nomatch x), h⟩⟩) hu
end
section
variable {prog : Program} {w : World} {K : Type} [DecidableEq K] {knd : KeyKind prog w K} {A : Around} {E : Value → Shared → Prop} {s : Shared}
theorem rc_dicts_ne {a b : Addr} {ka kb : List (K × Value)} {r : Bool} (ha : (a == sysModules) = false) (hb : (b == sysModules) = false) (da : s.heap.DictOf knd a ka) (db : s.heap.DictOf knd b kb) (hu : A.units < cLine)
    (hits : ka.length = kb.length → PySem.W.KeqHitsP prog w A.in1 s kb ka r) (E Q : Value → Shared → Prop) (h : Q (.bool (!(ka.length == kb.length && r))) s) : wpAny (model prog w) A (richCompare .NotEq (.ref a) (.ref b)) Q E s := by
  refine wpAny_richCompare_same_room (op := .NotEq) da.typeIs db.typeIs PySem.F.slot_dict_ne (wpAny_call_entry PySem.F.slot_dict_ne da.typeIs PySem.F.entry_dict_ne ?_ (PySem.F.args_dict_ne_2 _ _)) hu
  refine wpAny_bind (m := Builtin.Dict.dictSlotArgs "__ne__" ⟨[.ref a, .ref b], []⟩) ?_
  unfold Builtin.Dict.dictSlotArgs
  refine wpAny_bind (wpAny_notOrdered_dict da.typeIs (wpAny_pure ?_))
  refine wpAny_bind (wpAny_isInstance (T := "dict") db.typeIs PySem.F.sub_dict_dict ?_)
  simp only [Bool.not_true, Bool.false_eq_true, if_false]
  refine wpAny_bind (wpAny_pure (wpAny_bind (wpAny_pure ?_)))
  refine wpAny_bind (PySem.W.samePairsP ha hb da db hits ?_)
  exact wpAny_pure ⟨_, rfl, (fun x => nomatch x), by simpa using h⟩
end
/-! ### the layer's words -/
def EqS (K : PySem.W.Frag) (H : Hp) (E : V → V → Prop) (x y : V) : Prop :=
  (∃ a b xs ys, x = .ref a ∧ y = .ref b ∧ SqL K H a xs ∧ SqL K H b ys ∧ Paired E xs ys) ∨
  (∃ a b xs ys, x = .ref a ∧ y = .ref b ∧ SqT K H a xs ∧ SqT K H b ys ∧ Paired E xs ys) ∨
    ∃ a b ks ls, x = .ref a ∧ y = .ref b ∧ H a = some (.dK ks) ∧ H b = some (.dK ls) ∧ ks.length = ls.length ∧ ∀ p ∈ ks, ∃ u, valV ls p.1 = some u ∧ E p.2 u
/-- equal data, of nesting below n -/
def EqW (K : PySem.W.Frag) (H : Hp) : Nat → V → V → Prop
  | 0 => fun _ _ => False
  | n + 1 => fun x y => (x = y ∧ flatB x = true) ∨ (∃ a, x = .ref a ∧ y = .ref a) ∨ EqS K H (EqW K H n) x y
section
variable {X : Cx} {pins : List (Addr × Obj)} {σ : L2.St} {H : Hp} {s : Shared}
theorem eqS_refs {K : PySem.W.Frag} {F : V → V → Prop} {x y : V} (h : EqS K H F x y) : ∃ a b, x = .ref a ∧ y = .ref b := by
  rcases h with ⟨a, b, _, _, e1, e2, _⟩ | ⟨a, b, _, _, e1, e2, _⟩ | ⟨a, b, _, _, e1, e2, _⟩ <;> exact ⟨a, b, e1, e2⟩
theorem eqS_run (I : Inv X pins σ H s) {A : Around} {F : V → V → Prop} (hu : A.units < cLine) (ih : ∀ x y v u, F x y → RelV x v → RelV y u → SeqAt.EqP X.prog X.w A.in1 s v u true) {x y : V} {v u : Value} (h : EqS X.K H F x y) (rx : RelV x v) (ry : RelV y u)
    (E Q : Value → Shared → Prop) (q : Q (.bool true) s) : wpAny (model X.prog X.w) A (richCompare .Eq v u) Q E s := by
  rcases h with ⟨a, b, xs, ys, rfl, rfl, ha, hb, hp⟩ | ⟨a, b, xs, ys, rfl, rfl, ha, hb, hp⟩ | ⟨a, b, ks, ls, rfl, rfl, ha, hb, hl, hp⟩
  · exact eqR_run I hu ih (.inl ⟨a, b, xs, ys, rfl, rfl, ha, hb, hp⟩) rx ry E Q q
  · cases (show v = Value.ref a from rx)
    cases (show u = Value.ref b from ry)
    obtain ⟨us, r1, p1, _⟩ := I.tuple ha
    obtain ⟨ws, r2, p2, _⟩ := I.tuple hb
    have hsz : us.toArray.size = ws.toArray.size := by
      rw [List.size_toArray, List.size_toArray, ← r1.length, ← r2.length]
      exact Paired.length hp
    refine rc_tuples p1 p2 hsz hu (fun j h1 h2 => ?_) E Q q
    have k := items_run ih hp r1 r2 j (by simpa using h1) (by simpa using h2)
    simpa using k
  · exact eqR_run I hu ih (.inr ⟨a, b, ks, ls, rfl, rfl, ha, hb, hl, hp⟩) rx ry E Q q
theorem eqW_run (I : Inv X pins σ H s) : ∀ (n : Nat) (A : Around), A.units + n < cLine → ∀ (x y : V) (v u : Value), EqW X.K H n x y → RelV x v → RelV y u → SeqAt.EqP X.prog X.w A s v u true
  | 0, _, _, _, _, _, _, h, _, _ => (show False from h).elim
  | n + 1, A, hu, x, y, v, u, h, rx, ry => by
    rcases h with ⟨rfl, f⟩ | ⟨a, rfl, rfl⟩ | h
    · exact (eqAt_same rx ry f).eqP
    · cases (show v = Value.ref a from rx)
      cases (show u = Value.ref a from ry)
      exact (SeqAt.EqAt.same _).eqP
    · have step := eqS_run I (A := A) (by omega) (eqW_run I n A.in1 (by show A.units + 1 + n < cLine; omega)) h rx ry
      obtain ⟨a, b, rfl, rfl⟩ := eqS_refs h
      cases (show v = Value.ref a from rx)
      cases (show u = Value.ref b from ry)
      by_cases e : a = b
      · subst e
        exact (SeqAt.EqAt.same _).eqP
      · exact SeqAt.eqP_refs e step
theorem neS_run (I : Inv X pins σ H s) {A : Around} {F : V → V → Prop} (hu : A.units < cLine) (ih : ∀ x y v u, F x y → RelV x v → RelV y u → SeqAt.EqP X.prog X.w A.in1 s v u true) {x y : V} {v u : Value}
    (h : (∃ a b xs ys, x = .ref a ∧ y = .ref b ∧ SqT X.K H a xs ∧ SqT X.K H b ys ∧ Paired F xs ys) ∨ ∃ a b ks ls, x = .ref a ∧ y = .ref b ∧ H a = some (.dK ks) ∧ H b = some (.dK ls) ∧ ks.length = ls.length ∧ ∀ p ∈ ks, ∃ u, valV ls p.1 = some u ∧ F p.2 u)
    (rx : RelV x v) (ry : RelV y u) (E Q : Value → Shared → Prop) (q : Q (.bool false) s) : wpAny (model X.prog X.w) A (richCompare .NotEq v u) Q E s := by
  rcases h with ⟨a, b, xs, ys, rfl, rfl, ha, hb, hp⟩ | ⟨a, b, ks, ls, rfl, rfl, ha, hb, hl, hp⟩
  · cases (show v = Value.ref a from rx)
    cases (show u = Value.ref b from ry)
    obtain ⟨us, r1, p1, _⟩ := I.tuple ha
    obtain ⟨ws, r2, p2, _⟩ := I.tuple hb
    have hsz : us.toArray.size = ws.toArray.size := by
      rw [List.size_toArray, List.size_toArray, ← r1.length, ← r2.length]
      exact Paired.length hp
    refine rc_tuples_ne p1 p2 hsz hu (fun j h1 h2 => ?_) E Q q
    have k := items_run ih hp r1 r2 j (by simpa using h1) (by simpa using h2)
    simpa using k
  · cases (show v = Value.ref a from rx)
    cases (show u = Value.ref b from ry)
    obtain ⟨_, ya, va, ra, da⟩ := (show ObjOk X.prog X.w H s.heap a (.dK ks) from I.hok a _ ha)
    obtain ⟨_, yb, vb, rb, db⟩ := (show ObjOk X.prog X.w H s.heap b (.dK ls) from I.hok b _ hb)
    refine rc_dicts_ne (knd := mixKind X.prog X.w) (r := true) ya yb da db hu (fun _ => hits_run ih rb ra hp) E Q ?_
    have e : va.length = vb.length := by rw [← ra.length, ← rb.length]; exact hl
    rw [show (!(va.length == vb.length && true)) = false from by rw [e]; simp]
    exact q
end
section
variable {X : Cx}
/-- a == b of equal data, a != b of equal tuples or dicts -/
def rEqS (K : PySem.W.Frag) : R2 := fun x y H Q => ∃ n, n ≤ 60 ∧ EqS K H (EqW K H n) x y ∧ Q (.bl true) H
theorem op_eqS (hu : X.A.units + 64 < cLine) : OpR X (compareOp .Eq) (rEqS X.K) := by
  intro pins s σ H x y v u Q I rx ry h
  obtain ⟨n, hn, h, q⟩ := h
  exact eqS_run I (A := X.A) (by omega) (eqW_run I n X.A.in1 (by show X.A.units + 1 + n < cLine; omega)) h rx ry _ _ ⟨.bl true, H, I, rfl, q⟩
def rNeS (K : PySem.W.Frag) : R2 := fun x y H Q => ∃ n, n ≤ 60 ∧ ((∃ a b xs ys, x = .ref a ∧ y = .ref b ∧ SqT K H a xs ∧ SqT K H b ys ∧ Paired (EqW K H n) xs ys) ∨
  ∃ a b ks ls, x = .ref a ∧ y = .ref b ∧ H a = some (.dK ks) ∧ H b = some (.dK ls) ∧ ks.length = ls.length ∧ ∀ p ∈ ks, ∃ u, valV ls p.1 = some u ∧ EqW K H n p.2 u) ∧ Q (.bl false) H
theorem op_neS (hu : X.A.units + 64 < cLine) : OpR X (compareOp .NotEq) (rNeS X.K) := by
  intro pins s σ H x y v u Q I rx ry h
  obtain ⟨n, hn, h, q⟩ := h
  exact neS_run I (A := X.A) (by omega) (eqW_run I n X.A.in1 (by show X.A.units + 1 + n < cLine; omega)) h rx ry _ _ ⟨.bl false, H, I, rfl, q⟩
end
end Inf
end
section
set_option maxHeartbeats 4000000
/-! An own exception whose __init__ begins with super().__init__(a text): its __init__ as a def that keeps a promise. -/
namespace Inf
open PySem PySem.Spec PyProof.Rows L2
/-- what the written part says: the def at f closes over the cell at cc, which holds its class at C -/
structure SupTxt (P : Program) (K : PySem.W.Frag) (C f : Addr) (name qual : Str) (params : Arguments) (body : List Stmt) (scope : Scope) : Prop where
  oex : OexC K C
  fn : ∃ (oc : Value) (od : Option Addr) (kV doc pm : Value) (an : Option Addr) (ct : Value) (osl : Array (Option Value)) (cc cda : Addr), K.lookup f = some ⟨oc, od, .func (PySem.W.ksFn name qual params body scope .none kV doc pm an (.ref cda) ct cc), osl⟩ ∧
    PySem.W.codeIn K (.ref cda) qual = true ∧ (∃ cl cld csl, K.lookup cc = some ⟨cl, cld, .cell (some (.ref C)), csl⟩) ∧
    ∃ (ccl : Value) (cdd : Option Addr) (vs : Array Value) (ccs : Array (Option Value)) (file : Str) (tf : Tok), K.lookup cda = some ⟨ccl, cdd, .fields vs, ccs⟩ ∧ vs[2]? = some (.str file tf) ∧ ((P.main.file : Str) == file) = true
  top : (P.main.scope.names.lookup ("super" : Str)).isSome = false
  opq : PySem.W.nsIn K cStatics "thirdparty.any" = some none
  sup : PySem.W.ks_superIn K C C "__init__" = some (some (.builtin "ValueError.__init__"))
  sub : PySem.W.subIn K (.ref C) (.type "ValueError") = some true
  self_ : PySem.W.mroIn K C (.ref C) = some true
  ini : PySem.W.findIn K (.ref C) "__init__" = some (some (.ref f))
  tyf : PySem.W.typeIn K (.ref f) = some (.type "function")
  kpf : PySem.W.keepIn K (.ref f) = true
/-- the frame of such a def -/
def cxS (CX : CXT) (P : Program) (w : World) (K : PySem.W.Frag) (mg : Str → Option Value) (base : Heap) (N : List Str) (qual : Str) (scope : Scope) (f : Addr) (cd : Value) (cc : Addr) (A : Around) (outer : List Env) (s : Shared) (H : Hp) (E : XK) : Cx where
  prog := P
  w := w
  K := K
  mg := mg
  base := base
  A := A.deeper (PySem.W.ksEnv qual scope s.heap.objs.size f cd cc)
  N := N
  s_0 := s
  H_0 := H
  env := PySem.W.ksEnv qual scope s.heap.objs.size f cd cc
  outer := outer
  stack := PySem.W.ksEnv qual scope s.heap.objs.size f cd cc :: outer
  ex := []
  calm := true
  fn := fun _ => false
  pn := []
  xe := fun _ _ => False
theorem zip_lookup : ∀ {ps : List Str} {us : List Value} {i : Nat} {x : Str} {u : Value}, ps.Nodup → ps[i]? = some x → us[i]? = some u → (ps.zip us).lookup x = some u
  | [], _, _, _, _, _, h, _ => by simp at h
  | _ :: _, [], _, _, _, _, _, h => by simp at h
  | p :: ps, v :: us, 0, x, u, _, h1, h2 => by
    simp at h1 h2
    subst h1 h2
    simp [List.lookup]
  | p :: ps, v :: us, i + 1, x, u, nd, h1, h2 => by
    have n1 := List.nodup_cons.mp nd
    have m : x ∈ ps := List.mem_of_getElem? (by simpa using h1)
    have ne : (x == p) = false := by
      apply beq_eq_false_iff_ne.mpr
      rintro rfl
      exact n1.1 m
    rw [List.zip_cons_cons, List.lookup_cons, ne]
    exact zip_lookup (i := i) n1.2 (by simpa using h1) (by simpa using h2)
theorem lookup_mem : ∀ {l : List (Str × Value)} {x : Str} {u : Value}, (l.map (·.1)).Nodup → (x, u) ∈ l → l.lookup x = some u
  | [], _, _, _, h => by cases h
  | p :: l, x, u, nd, h => by
    have n1 := List.nodup_cons.mp nd
    rcases List.mem_cons.mp h with e | h
    · subst e
      simp [List.lookup]
    · have ne : (x == p.1) = false := by
        apply beq_eq_false_iff_ne.mpr
        rintro rfl
        exact n1.1 (List.mem_map_of_mem (f := (·.1)) h)
      rw [List.lookup_cons, ne]
      exact lookup_mem n1.2 h
theorem lookup_rev {ps : List Str} {us : List Value} {i : Nat} {x : Str} {u : Value} (nd : ps.Nodup) (hl : ps.length = us.length) (h1 : ps[i]? = some x) (h2 : us[i]? = some u) : (ps.zip us).reverse.lookup x = some u := by
  have e : (ps.zip us).map (·.1) = ps := by rw [List.map_fst_zip]; omega
  refine lookup_mem ?_ (List.mem_reverse.mpr (mem_of_lookup (zip_lookup nd h1 h2)))
  rw [List.map_reverse, e]
  exact (List.reverse_perm ps).symm.nodup nd
/-- such a scope: the parameters first, __class__ the only name from outside -/
structure SupScope (N ps : List Str) (sc : Scope) : Prop where
  kind : sc.kind = .function
  co : sc.isCoroutine = false
  gen : sc.isGenerator = false
  nd : N.Nodup
  pre : N.take ps.length = ps
  par : ∀ x ∈ ps, sc.names.lookup x = some .local
  cell : ∀ y ∈ sc.names, y.2 ≠ .cell
  free : ∀ y ∈ sc.names, y.2 = .free → y.1 = "__class__"
  sup : sc.names.lookup ("super" : Str) = some .globalImplicit
  cls : sc.names.lookup ("__class__" : Str) = some .free
section
variable {CX : CXT} {P : Program} {w : World} {K : PySem.W.Frag} {mg : Str → Option Value} {base : Heap} {N ps : List Str} {name qual : Str} {params : Arguments} {scope : Scope} {C f cc : Addr} {cd : Value} {A : Around} {outer : List Env} {s : Shared} {H : Hp} {E : XK} {us : List Value} {vs : List V}
theorem inv_startS {h1 : Heap} {tk : Nat} (S : SupScope N ps scope) (hd : A.handled = none) (e0 : Env0 P w K mg base A outer s H) (hl : vs.length = ps.length) (r : Vals vs us) (hcc : ∃ cl cld csl, K.lookup cc = some ⟨cl, cld, .cell (some (.ref C)), csl⟩)
    (hn : h1.Ns s.heap.objs.size fun x => (ps.zip us).reverse.lookup x) (hk : ∀ b o, s.heap.get? b = some o → h1.get? b = some o) :
    Inv (cxS CX P w K mg base N qual scope f cd cc A outer s H E) [] (start N vs) H { s with heap := h1, toks := tk } := by
  have ndp : ps.Nodup := by rw [← S.pre]; exact S.nd.sublist (List.take_sublist _ _)
  have hpl : ps.length ≤ N.length := by have := congrArg List.length S.pre; rw [List.length_take] at this; omega
  obtain ⟨cl, cld, csl, hc⟩ := hcc
  have hcb := e0.bs _ _ (e0.mod.kin _ _ hc)
  have one : ∀ {y : Str} {c : Addr}, ([("__class__", cc)] : List (Str × Addr)).lookup y = some c → y = "__class__" ∧ c = cc := fun {y c} h => by
    rw [List.lookup_cons] at h
    by_cases e : (y == ("__class__" : Str)) = true
    · rw [e] at h
      exact ⟨eq_of_beq e, (Option.some.inj h).symm⟩
    · have e' : (y == ("__class__" : Str)) = false := by simpa using e
      rw [e'] at h
      cases h
  have noA : ∀ b : Addr, b ∉ (cxS CX P w K mg base N qual scope f cd cc A outer s H E).ex := fun b z => absurd (show b ∈ ([] : List Addr) from z) (by simp)
  refine ⟨⟨e0.mod, S.kind, rfl, rfl, Nat.le_refl _, fun y z c a1 a2 => ?_, fun y hy => ?_, fun y c a _ => Bool.noConfusion (show false = true from a), fun _ => hd, Around.frames_deeper e0.frames, .inr ⟨rfl, rfl⟩, fun b z => absurd z (noA b), e0.bs, e0.bsz, fun b _ _ => noA b, fun b z => absurd z (noA b), e0.funs, e0.frf⟩,
    rfl, e0.bare, Un.kept hk, ⟨_, hn, fun i y v a1 a2 a3 => ?_⟩, fun y c a => ?_, e0.hok.fresh (Nat.le_refl _), fun y c a => ?_, fun p hp => absurd (show p ∈ ([] : List (Addr × Obj)) from hp) (by simp), e0.hok.kept hk, ?_⟩
  · rw [(one a1).1, (one a2).1]
  · rcases hy with hy | hy
    · exact absurd rfl (S.cell _ (mem_of_lookup (show scope.names.lookup y = some .cell from hy)))
    · have e := S.free _ (mem_of_lookup (show scope.names.lookup y = some .free from hy)) rfl
      have e' : y = "__class__" := e
      subst e'
      exact ⟨cc, by show ([(("__class__" : Str), cc)] : List (Str × Addr)).lookup ("__class__" : Str) = some cc; simp [List.lookup]⟩
  · have hi : i < vs.length := by
      unfold L2.start at a2
      by_cases hi : i < vs.length
      · exact hi
      · rw [List.getElem?_append_right (by simpa using hi), List.getElem?_replicate] at a2
        split at a2 <;> cases a2
    have ha : vs[i]? = some v := by
      unfold L2.start at a2
      rw [List.getElem?_append_left (by simpa using hi), List.getElem?_map] at a2
      cases e : vs[i]? with
      | none => rw [e] at a2; cases a2
      | some a => rw [e] at a2; cases a2; rfl
    obtain ⟨u, hu, rv⟩ := r.get ha
    have hp : ps[i]? = some y := by
      rw [← S.pre, List.getElem?_take_of_lt (by omega)]; exact a1
    exact ⟨u, rv, .inl ⟨S.par y (List.mem_of_getElem? hp), lookup_rev ndp (by rw [← hl]; exact r.length) hp hu⟩⟩
  · obtain ⟨_, e⟩ := one a
    rw [e]
    exact ⟨some (.ref C), _, hk _ _ hcb.1, rfl⟩
  · obtain ⟨_, e⟩ := one a
    rw [e]
    exact hcb.2
  · unfold L2.start
    show _ = N.length
    rw [List.length_append, List.length_map, List.length_replicate]
    omega
end
/-- the wrapper called -/
theorem call_mw {prog : Program} {w : World} {A : Around} {E : Value → Shared → Prop} {h : Heap} {g : Array GenState} {d : Drawn} {t : Nat} {os : OsState} {nm q : Str} {C N : Addr} {bs bm : List Value} {hdct : Bool} {sn : List Str} {sub : List Value} {ab : Bool} {col : Option Bool} {dd : Option Addr} {k0 k1 k2 k3 k5 : Option Value}
    {u e t0 : Addr} {rest : List Value} {Q : Value → Shared → Prop}
    (hC : h.get? C = some (excClassObj nm q C N bs bm hdct sn sub ab col dd k0 k1 k2 k3 k5 "ValueError.__new__")) (he : h.get? e = some (HandSPX.excO C t0)) (hu : h.get? u = some (PySem.W.kxs_mw "ValueError.__init__" e)) (hrest : rest.length ≤ sizeLine)
    (hq : ∀ h' t1, (∀ b o, b ≠ e → h.get? b = some o → h'.get? b = some o) → h'.get? e = some (HandSPX.excO C t1) → Q .none ⟨h', g, d, t, os⟩) :
    wpAny (model prog w) A (call (.ref u) rest) Q E ⟨h, g, d, t, os⟩ := by
  refine wpAny_call (codeAny_of_tree ?_)
  show wpAny _ A.in1 (callAny (.ref u) ⟨rest, []⟩) _ _ _
  simp only [callAny]
  refine wpAny_bind (wpAny_load hu ?_)
  simp only [PySem.W.kxs_mw, show (Value.type "method-wrapper" == Value.type "method" || Value.type "method-wrapper" == Value.type "builtin_function_or_method" || Value.type "method-wrapper" == Value.type "method-wrapper") = true by decide, if_true]
  refine PySem.W.KFB.if_so (by decide) ?_
  refine wpAny_bind (PySem.W.check_bound_init F.excBase_ValueError.toExcCallFacts hC he rfl ?_)
  refine wpAny_bind (wpAny_pure (wpAny_pure ?_))
  refine ⟨Code.quiet_builtin _ (by decide +kernel), codeAny_builtin F.excBase_ValueError.initEntry ?_⟩
  rw [Around.under_plainId F.excBase_ValueError.init.plain _]
  wp_walk
  refine hq _ h.objs.size (fun b o hb ho => ?_) ?_
  · rw [Heap.get?_update_other _ _ (Ne.symm hb)]
    exact Heap.get?_push_of_some _ ho
  · rw [Heap.get?_update_self _ (Heap.get?_push_of_some _ he) rfl]
    rfl
section
variable {X : Cx} {pins : List (Addr × Obj)} {σ : L2.St} {H : Hp} {s : Shared}
/-- what is pushed behind the frame's eyes -/
theorem Inv.pushed {h' : Heap} {t' : Nat} (I : Inv X pins σ H s) (k : ∀ b o, s.heap.get? b = some o → h'.get? b = some o) : Inv X pins σ H { s with heap := h', toks := t' } := I.kept k
theorem super_init {C f a cda cc : Addr} {qual name : Str} {params : Arguments} {scope : Scope} {body : List Stmt} {z : Str} {p0 p1 p2 p3 p4 p5 : Pos} {ar : Arg} {N0 ps : List Str} {jj : _}
    (T : SupTxt X.prog X.K C f name qual params body scope) (Sc : SupScope N0 ps scope) (I : Inv X pins σ H s) (hcalm : X.calm = true) (ea : H a = some (exo a C none)) (hA : X.env = PySem.W.ksEnv qual scope X.env.locals f (.ref cda) cc)
    (hf : ∃ (oc : Value) (od : Option Addr) (kV doc pm : Value) (an : Option Addr) (ct : Value) (osl : Array (Option Value)), X.K.lookup f = some ⟨oc, od, .func (PySem.W.ksFn name qual params body scope .none kV doc pm an (.ref cda) ct cc), osl⟩)
    (hcc : ∃ cl cld csl, X.K.lookup cc = some ⟨cl, cld, .cell (some (.ref C)), csl⟩)
    (hcd : ∃ (ccl : Value) (cdd : Option Addr) (vs : Array Value) (ccs : Array (Option Value)) (file : Str) (tf : Tok), X.K.lookup cda = some ⟨ccl, cdd, .fields vs, ccs⟩ ∧ vs[2]? = some (.str file tf) ∧ ((X.prog.main.file : Str) == file) = true)
    (hp : (params.posonlyargs ++ params.args).head? = some ar) (hN : X.N[0]? = some ar.arg) (hs0 : σ[0]? = some (some (.ref a))) (hloc : scope.names.lookup ar.arg = some .local) (hsup : X.mg "super" = none) (hboot : bootBuiltins "super" = some (.type "super"))
    {D : Ends} (hnx : D.nx σ H) {pl : Sem Bool}
    (he : eval (.Call (.Attribute (.Call (.Name "super" p0) [] [] p1) "__init__" p2) [.Constant (.str z) jj p3] [] p4) X.env = (do
      let ov ← attributeBase (.Call (.Name "super" p0) [] [] p1) "__init__" X.env (eval (.Call (.Name "super" p0) [] [] p1) X.env)
      standAt p2.atName
      let (f, first) ← holding [ov] (getMethod ov "__init__" pl)
      callWith p4 f first (backTo p4 (starEach [.Constant (.str z) jj p3] X.env)) [])) :
    _root_.PySem.wpAt (model X.prog X.w) X.A (.func body X.env) (exec (.Expr (.Call (.Attribute (.Call (.Name "super" p0) [] [] p1) "__init__" p2) [.Constant (.str z) jj p3] [] p4) p5) X.env) (SP X pins D) X.xe s := by
  obtain ⟨oc, od, kV, doc, pm, an, ct, osl, hf⟩ := hf
  obtain ⟨cl, cld, csl, hcc⟩ := hcc
  obtain ⟨ccl, cdd, vs, ccs, file, tf, hcd, hvs, hfile⟩ := hcd
  obtain ⟨nm, q, Nn, bs, bm, sn, sub, ab, col, dd, k0, k1, k2, k3, k5, hC, hbm⟩ := T.oex.cls
  obtain ⟨t1, ho⟩ := exo_at I.hok ea
  have hcl : PySem.W.clsIn X.K C = some { name := nm, bases := bs, mro := .ref C :: bm, ns := Nn, qualname := q, hasDict := true, slotNames := sn, subclasses := sub, abstract := ab, collection := col, hasDel := false } := by unfold PySem.W.clsIn; rw [hC] <;> rfl
  obtain ⟨m, hn, hl⟩ := I.loc
  obtain ⟨u, ru, lk⟩ := hl 0 ar.arg (.ref a) hN hs0 (.inl (by rw [hA]; exact hloc))
  obtain rfl : u = Value.ref a := ru
  have hma : m ar.arg = some (.ref a) := by
    rcases lk with ⟨_, e⟩ | ⟨k, _⟩
    · exact e
    · have e : X.env.kindOf ar.arg = some .local := by rw [hA]; exact hloc
      rw [e] at k
      rcases k with k | k <;> cases k
  have KI := I.kIn
  have gl : X.env.globals = mainGlobals := I.ok.glob
  have bl : X.env.builtins = builtinsNs := I.ok.blt
  have hcell : X.env.cells.lookup ("__class__" : Str) = some cc := by
    rw [hA]
    show ([(("__class__" : Str), cc)] : List (Str × Addr)).lookup ("__class__" : Str) = some cc
    simp [List.lookup]
  obtain ⟨mb, b1, b2⟩ := I.mod.blt
  refine PySem.ks_wpAt_Expr_any (PySem.ks_wpAt_MethodCall (pl := pl) ?_ he) I.quiet
  refine PySem.ks_wpAt_super_base (env := X.env) (by rw [hA]; exact Sc.sup) (by rw [hA]; exact Sc.cls) (by decide) (by rw [hA]) (KI _ _ hf) rfl hp (by rw [hA]) (KI _ _ hcd) rfl hvs hfile T.top ?_
  refine PySem.W.ks_loadName_global I.ok.kind (by rw [hA]; exact Sc.sup) (Calls.loadGlobal_builtin (by rw [gl]; exact I.mod.glob.keeps I.bk) hsup (by rw [bl]; exact b1.keeps I.bk) ((b2 _ (by decide)).trans hboot) ⟨rfl, ?_⟩)
  refine wpAny_loadName_free I.ok.kind (by rw [hA]; exact Sc.cls) hcell ⟨_, KI _ _ hcc, rfl⟩ ?_
  refine wpAny_loadName_local I.ok.kind (by rw [hA]; exact hloc) hn hma ?_
  obtain ⟨hp', g, dr, tk, os⟩ := s
  refine PySem.ks_wpAny_isType_cls (KI _ _ hC) rfl ⟨rfl, ?_⟩
  refine PySem.ks_wpAny_call_super (KI _ _ hC) rfl ho rfl (fun c e => by cases e) (PySem.W.looks_mroIn KI T.self_) (fun h' eso k => ?_)
  have K2 : X.K.In h' := KI.keeps k
  have ho2 := k _ _ ho
  have IA : PySem.W.InstAt h' a (HandSPX.excO C t1) C none := ⟨ho2, rfl, rfl, trivial⟩
  have along : PySem.W.alongIn X.K "__init__" bm = some (some (.builtin "ValueError.__init__")) := by
    have e := T.sup
    unfold PySem.W.ks_superIn at e
    rw [hcl] at e
    have e2 : ((Value.ref C :: bm).dropWhile (· != .ref C)).drop 1 = bm := by simp [List.dropWhile_cons]
    simpa [e2] using e
  refine PySem.W.kxs_getMethod PySem.W.kxs_ValueError eso (PySem.W.looks_opaque K2 T.opq) (l₀ := .ref C :: bm) ?_ (by simp [List.dropWhile_cons]) K2 along (IA.type.andThen (PySem.W.looks_subIn K2 T.sub)) (PySem.W.ks_ne K2 IA hcl) (by decide) ?_
  · exact fun A Q E s k q => wpAny_bind ((PySem.W.looks_clsIn K2 hcl) A _ E s k (wpAny_pure q))
  have k3 : ∀ b o, hp'.get? b = some o → (h'.push (PySem.W.kxs_mw "ValueError.__init__" a)).get? b = some o := fun b o e => Heap.get?_push_of_some _ (k b o e)
  have J : ∀ t', Inv X pins σ H ⟨h'.push (PySem.W.kxs_mw "ValueError.__init__" a), g, dr, t', os⟩ := fun t' => I.kept (t' := t') k3
  have hu : (h'.push (PySem.W.kxs_mw "ValueError.__init__" a)).get? h'.objs.size = some (PySem.W.kxs_mw "ValueError.__init__" a) := Heap.get?_push_size _ rfl
  refine PySem.W.kxs_callWith (i := "ValueError.__init__") (x := a) rfl (Calls.evalArgs_plain (Calls.spliced_cons (Calls.Constant_str (k := jj) (pos := p3) (Calls.spliced_nil ⟨hu, ?_⟩))))
  refine call_mw ((J 0).kIn _ _ hC) (k3 _ _ ho) hu (by show 1 ≤ sizeLine; exact sz (by decide)) fun h2 t2 k4 e4 => ?_
  have W := (J (tk + 1 + 1)).write (t' := tk + 1 + 1) (x := a) (e := a) (o := exo a C none) (by rw [ea]; exact True.intro) (.inl rfl) k4 ⟨_, e4⟩ (exo_ok e4)
  have eu : upd H a (exo a C none) = H := by
    funext b
    by_cases hb : b = a
    · rw [hb, upd_same, ea]
    · rw [upd_ne hb]
  rw [eu] at W
  exact ⟨σ, H, W, hnx⟩
end

/-- the def keeps a promise: its first statement is super().__init__(z), rest is read by the layer's rules -/
theorem fn_sup {CX : CXT} {P : Program} {w : World} {K : PySem.W.Frag} {mg : Str → Option Value} {base : Heap} {N ps : List Str} {name qual : Str} {params : Arguments} {scope : Scope} {C f : Addr} {rest : List Stmt} {k : Nat} {sp : Sp} {z : Str} {jj : Nat} {p0 p1 p2 p3 p4 p5 : Pos} {ar : Arg}
    (T : SupTxt P K C f name qual params (.Expr (.Call (.Attribute (.Call (.Name "super" p0) [] [] p1) "__init__" p2) [.Constant (.str z) jj p3] [] p4) p5 :: rest) scope) (S : SupScope N ps scope) (len : ∀ vs H Q E, sp vs H Q E → vs.length = ps.length)
    (hp : (params.posonlyargs ++ params.args).head? = some ar) (hN : N[0]? = some ar.arg) (hloc : scope.names.lookup ar.arg = some .local) (hsup : mg "super" = none)
    (hev : ∀ env : Env, ∃ pl : Sem Bool, eval (.Call (.Attribute (.Call (.Name "super" p0) [] [] p1) "__init__" p2) [.Constant (.str z) jj p3] [] p4) env = (do
      let ov ← attributeBase (.Call (.Name "super" p0) [] [] p1) "__init__" env (eval (.Call (.Name "super" p0) [] [] p1) env)
      standAt p2.atName
      let (f, first) ← holding [ov] (getMethod ov "__init__" pl)
      callWith p4 f first (backTo p4 (starEach [.Constant (.str z) jj p3] env)) []))
    (first : ∀ vs H Q E, sp vs H Q E → ∃ a r, vs = .ref a :: r ∧ H a = some (exo a C none))
    (hbind : ∀ (kV doc pm : Value) (an : Option Addr) (cdv ct : Value) (cc : Addr) (us : List Value), us.length = ps.length →
      bindArgs (PySem.W.ksFn name qual params (.Expr (.Call (.Attribute (.Call (.Name "super" p0) [] [] p1) "__init__" p2) [.Constant (.str z) jj p3] [] p4) p5 :: rest) scope .none kV doc pm an cdv ct cc) ⟨us, []⟩ = pure (ps.zip us))
    (body : ∀ (cdv : Value) (cc : Addr) (A : Around) (outer : List Env) (s : Shared) (H : Hp) (vs : List V) (Q : VK) (E : XK), Room k (A.deeper (PySem.W.ksEnv qual scope s.heap.objs.size f cdv cc)) → sp vs H Q E →
      ∃ t, PSs (cxS CX P w K mg base N qual scope f cdv cc A outer s H E) rest t ∧ t { nx := fun _ H' => Q .non H', rt := Q } (L2.start N vs) H) :
    ∃ fd, FnOk P w K mg base CX (k + 1) f fd ps sp ∧ Binds K fd ps [] := by
  obtain ⟨oc, od, kV, doc, pm, an, ct, osl, cc, cda, lk, hcd, hcc, hrec⟩ := T.fn
  refine ⟨_, ⟨len, fun A outer s H args us vs Q E hr e0 hb r hsp => ?_⟩, .all (hbind kV doc pm an (.ref cda) ct cc)⟩
  have hl := len _ _ _ _ hsp
  have KX : K.In s.heap := e0.mod.kin.keeps fun b o e => (e0.bs b o e).1
  have lim : s.heap.NoLimit := e0.mod.nolimit.keeps fun b o e => (e0.bs b o e).1
  refine PySem.ks_codeAny_call_defAt (binds := ps.zip us) hr.depth (KX _ _ lk) rfl lim (PySem.W.codeRec_of KX hcd) rfl hb S.cell (fun y hy => S.par _ (List.of_mem_zip hy).1) (fun h1 hn hk => ?_) S.co S.gen S.kind
  obtain ⟨t, ht, hq⟩ := body (.ref cda) cc A outer s H vs Q E (hr.deeper _) hsp
  obtain ⟨a, rr, ev, ea⟩ := first _ _ _ _ hsp
  have I : Inv (cxS CX P w K mg base N qual scope f (.ref cda) cc A outer s H E) [] (L2.start N vs) H { s with heap := h1, toks := s.toks + (ps.zip us).length } := inv_startS S hr.hd e0 hl r hcc hn hk
  obtain ⟨pl, hpl⟩ := hev (PySem.W.ksEnv qual scope s.heap.objs.size f (.ref cda) cc)
  have sup := super_init (X := cxS CX P w K mg base N qual scope f (.ref cda) cc A outer s H E) (D := { nx := fun σ' H' => t { nx := fun _ H' => Q .non H', rt := Q } σ' H', rt := Q }) (N0 := N) (ps := ps) (jj := jj) (p5 := p5) (body := .Expr (.Call (.Attribute (.Call (.Name "super" p0) [] [] p1) "__init__" p2) [.Constant (.str z) jj p3] [] p4) p5 :: rest)
    T S I rfl ea rfl ⟨oc, od, kV, doc, pm, an, ct, osl, lk⟩ hcc hrec hp hN (by rw [ev]; rfl) hloc hsup (by decide +kernel) hq hpl
  have fin : ∀ {σ' : L2.St} {H' : Hp} {v : V} {u : Value} {s' : Shared}, Inv (cxS CX P w K mg base N qual scope f (.ref cda) cc A outer s H E) [] σ' H' s' → L2.RelV v u → Q v H' → CE outer P w H s Q u s' :=
    fun {σ' H' v u s'} J rv q => ⟨v, H', J.os, J.bare, J.base, J.hok, rv, q⟩
  refine PySem.ks_wpAt_mono (PySem.ks_wpAt_execs_cons (Q := fun fl s' => match fl with | .ret u => CE outer P w H s Q u s' | .next => CE outer P w H s Q .none s' | _ => False) (PySem.ks_wpAt_mono sup (fun fl s' h => ?_) fun _ _ z => z)) (fun fl s' h => ?_) fun _ _ z => z.elim
  · cases fl with
    | next =>
      obtain ⟨σ', H', J, q⟩ := h
      refine wpAt_of_wpAny (wpAny_mono (ht.run [] s' σ' H' _ J q) (fun fl2 s2 h2 => ?_) fun _ _ z => z)
      cases fl2 with
      | ret u =>
        obtain ⟨v, σ2, H2, J2, rv, q2⟩ := h2
        exact fin J2 rv q2
      | next =>
        obtain ⟨σ2, H2, J2, q2⟩ := h2
        exact fin (v := V.non) (u := Value.none) J2 rfl q2
      | brk =>
        obtain ⟨_, _, _, q⟩ := h2
        exact q.elim
      | cont =>
        obtain ⟨_, _, _, q⟩ := h2
        exact q.elim
    | ret u =>
      obtain ⟨v, σ', H', J, rv, q⟩ := h
      exact fin J rv q
    | brk =>
      obtain ⟨_, _, _, q⟩ := h
      exact q.elim
    | cont =>
      obtain ⟨_, _, _, q⟩ := h
      exact q.elim
  · cases fl with
    | ret u => exact h
    | next => exact h
    | brk => exact h.elim
    | cont => exact h.elim
end Inf
end
section
set_option maxHeartbeats 4000000
/-! repr of data, for which the calls must tell that no repr is under way: promises that know it. -/
namespace Inf
open PySem PySem.Spec PyProof.Rows L2
/-! ### repr -/
def rRepr (K : PySem.W.Frag) : List V → Hp → VK → Prop := fun xs H Q => ∃ (a : Addr), xs = [.ref a] ∧
  ((∃ d : PyData, Dp K H (.ref a) d ∧ d.showable = true ∧ d.hasDict = false ∧ d.depth ≤ 20 ∧ d.leavesShort 13 = true ∧ d.bulk ≤ 1000000 ∧ Q (.str d.shown) H) ∨
    ∃ (b : Addr) (kvs : List (Int × Int)), SqT K H a [.ref b] ∧ H b = some (.dK (kvs.map fun p => ((Sum.inl p.1 : Key), V.int p.2))) ∧ kvs.length ≤ 1000 ∧ (∀ p ∈ kvs, 0 ≤ p.1 ∧ p.1 < 100000 ∧ 0 ≤ p.2 ∧ p.2 < 100000) ∧ ∀ z, Q (.str z) H)
theorem int_short {i : Int} (h0 : 0 ≤ i) (h1 : i < 100000) : (PyData.int i).showable = true ∧ (PyData.int i).leavesShort 13 = true := by
  constructor
  · simp only [PyData.showable, decide_eq_true_eq]
    have h : i.natAbs.log2 < 17 := by
      by_cases z : i.natAbs = 0
      · rw [z]; decide
      · exact (Nat.log2_lt z).mpr (by omega)
    omega
  · simp only [PyData.leavesShort, decide_eq_true_eq]
    have h := toString_length_le h0 (k := 5) (by decide) (by omega)
    show (Str.ofString (toString i)).length ≤ 13
    omega
theorem kv_short : ∀ {kvs : List (Int × Int)}, (∀ p ∈ kvs, 0 ≤ p.1 ∧ p.1 < 100000 ∧ 0 ≤ p.2 ∧ p.2 < 100000) →
    PyData.showableKv (kvs.map fun p => (.int p.1, .int p.2)) = true ∧ PyData.leavesShortKv 13 (kvs.map fun p => (.int p.1, .int p.2)) = true ∧ PyData.bulkKv (kvs.map fun p => (.int p.1, .int p.2)) = 2 * kvs.length ∧ PyData.depthKv (kvs.map fun p => (.int p.1, .int p.2)) = 0
  | [], _ => by simp [PyData.showableKv, PyData.leavesShortKv, PyData.bulkKv, PyData.depthKv]
  | p :: r, h => by
    obtain ⟨h1, h2, h3, h4⟩ := kv_short fun q hq => h q (List.mem_cons_of_mem _ hq)
    obtain ⟨a, b, c, d⟩ := h p List.mem_cons_self
    have s1 := int_short a b
    have s2 := int_short c d
    simp only [List.map_cons, PyData.showableKv, PyData.leavesShortKv, PyData.bulkKv, PyData.depthKv, s1.1, s1.2, s2.1, s2.2, h1, h2, h3, h4, PyData.bulk, PyData.depth, List.length_cons]
    refine ⟨by simp, by simp, by omega, by simp⟩
theorem kv_reads {P : Program} {w : World} {h : Heap} : ∀ {kvs : List (Int × Int)} {vs : List (Key × Value)} {es : List DictEntry}, KV (kvs.map fun p => ((Sum.inl p.1 : Key), V.int p.2)) vs →
    Pairs (mixKind P w) es vs →
    ReadsAll h (es.map (·.key)) ((kvs.map fun p => ((.int p.1 : PyData), (.int p.2 : PyData))).map (·.1)) [] ∧ ReadsAll h (es.map (·.val)) ((kvs.map fun p => ((.int p.1 : PyData), (.int p.2 : PyData))).map (·.2)) []
  | [], _, _, hk, hp => by
    cases hk
    cases hp
    exact ⟨.nil, .nil⟩
  | p :: kvs, _, _, hk, hp => by
    cases hk with
    | cons r rr =>
      cases hp with
      | cons q1 q2 qq =>
        obtain ⟨i1, i2⟩ := kv_reads (h := h) rr qq
        obtain ⟨e1, e2⟩ := r
        obtain ⟨t, e3⟩ := e2
        rw [← e1] at q1
        rcases keyIs_shape (show keyIs (Sum.inl p.1) _ = true from q1) with ⟨i, t', e4, e5⟩ | ⟨x, t', e4, _⟩
        · cases e4
          refine ⟨?_, ?_⟩
          · rw [List.map_cons, e5]
            exact ReadsAll.cons (as := []) (Reads.int _ _) i1
          · rw [List.map_cons, q2, e3]
            exact ReadsAll.cons (as := []) (Reads.int _ _) i2
        · cases e4
theorem call_repr {X : Cx} (hg : X.A.guards = some []) (hu : X.A.units + 64 < cLine) : CallR X (.builtin "repr") (rRepr X.K) := by
  intro pins s σ H xs us Q I r h
  obtain ⟨a, rfl, h⟩ := h
  obtain ⟨u, rfl, ru⟩ := vals1 r
  obtain rfl : u = Value.ref a := ru
  rcases h with ⟨d, hd, h1, h2, h3, h4, h5, q⟩ | ⟨b, kvs, ht, hb, hl, hv, q⟩
  · obtain ⟨as, rd⟩ := Dp.reads I d _ _ hd rfl
    exact repr_of_reads' rd h1 (PyData.noDict_hsm h2) hg (by omega) (fun b o e => e) (fun h' u tk k => ⟨.str d.shown, H, I.kept (t' := tk) k, ⟨u, rfl⟩, q⟩) (PyData.shown_fits_bulk (B := 13) (by decide) (by decide) h4 (by omega))
  · obtain ⟨its, rv, ⟨o, ho, hc, n, hd⟩, _⟩ := I.tuple ht
    obtain ⟨_, hsys, vs, rk, ⟨od, es, ep, hod, hex, hdd, _, hpp, _⟩⟩ := (show ObjOk X.prog X.w H s.heap b (.dK _) from I.hok b _ hb)
    obtain ⟨u, rfl, ru⟩ := Vals.one rv
    obtain rfl : u = Value.ref b := ru
    obtain ⟨r1, r2⟩ := kv_reads (P := X.prog) (w := X.w) (h := s.heap) rk hpp
    obtain ⟨k1, k2, k3, k4⟩ := kv_short hv
    have rd : Reads s.heap (.ref a) (.tuple [.dict (kvs.map fun p => (.int p.1, .int p.2))]) ((b :: [] ++ []) ++ []) :=
      Reads.tuple ho hc hd (ReadsAll.cons (Reads.dict hod hex.1 hdd r1 r2) ReadsAll.nil)
    refine repr_of_reads' rd ?_ (fun _ m => ?_) hg ?_ (fun b o e => e) (fun h' u tk k => ⟨.str _, H, I.kept (t' := tk) k, ⟨u, rfl⟩, q _⟩) (PyData.shown_fits_bulk (B := 13) (by decide) (by decide) ?_ ?_)
    · simp only [PyData.showable, PyData.showableAll, k1, Bool.and_true]
    · have e : sysModules = b := by simpa using m
      rw [← e] at hsys
      simp at hsys
    · simp only [PyData.depth, PyData.depthAll, k4]
      omega
    · simp only [PyData.leavesShort, PyData.leavesShortAll, k2, Bool.and_true]
    · simp only [PyData.bulk, PyData.bulkAll, k3]
      omega
/-! ### promises for calls under which no repr is under way -/
structure FnG (P : Program) (w : World) (K : PySem.W.Frag) (mg : Str → Option Value) (base : Heap) (k : Nat) (f : Addr) (fd : FuncData) (ps : List Str) (sp : Sp) : Prop where
  len : ∀ vs H Q E, sp vs H Q E → vs.length = ps.length
  run : ∀ (A : Around) (outer : List Env) (s : Shared) (H : Hp) (args : Args) (us : List Value) (vs : List V) (Q : VK) (E : XK), A.guards = some [] → Room k A → Env0 P w K mg base A outer s H → BindsTo s fd args (ps.zip us) → Vals vs us → sp vs H Q E →
    codeAny (model P w) A (.call (.ref f) args) (CR CX0 outer P w H s Q E) s
theorem fnG_of {P : Program} {w : World} {K : PySem.W.Frag} {mg : Str → Option Value} {base : Heap} {f : Addr} {fd : FuncData} {x qual : Str} {st : Stmt} {N ps : List Str} {k : Nat} {sp : Sp} (F : FnP K x qual st f fd) (S : FnScope N ps (defScope st))
    (len : ∀ vs H Q E, sp vs H Q E → vs.length = ps.length)
    (body : ∀ (cdv : Value) (A : Around) (outer : List Env) (s : Shared) (H : Hp) (vs : List V) (Q : VK) (E : XK), A.guards = some [] → Room k (A.deeper (envOfC qual (defScope st) s.heap.objs.size f cdv)) → sp vs H Q E →
      ∃ t, PSs (cxOf CX0 P w K mg base N qual (defScope st) f cdv A outer s H E).nox (defBody st) t ∧ t { nx := fun _ H' => Q .non H', rt := Q } (L2.start N vs) H) : FnG P w K mg base (k + 1) f fd ps sp := by
  refine ⟨len, fun A outer s H args us vs Q E hg hr e0 hb r hsp => ?_⟩
  obtain ⟨oc, od, dV, kV, doc, pm, an, cdv, ct, osl, rfl, lk, hcd, _, _⟩ := F.ex
  have KX : K.In s.heap := e0.mod.kin.keeps fun b o e => (e0.bs b o e).1
  have lim : s.heap.NoLimit := e0.mod.nolimit.keeps fun b o e => (e0.bs b o e).1
  refine codeAny_call_function hr.depth (KX _ _ lk) rfl S.co S.gen rfl (PySem.W.codeRec_of KX hcd) (hb _ _ _ _ (wpAny_newFunctionEnv_cells S.kind (fun ⟨n, v⟩ hy => ?_) fun env he s1 y => ?_))
  · rcases S.par n (List.of_mem_zip hy).1 with q | q
    · exact .inl q
    · exact .inr ⟨q, PySem.W.cellsFrom_some _ _ _ (.inl q)⟩
  subst he
  refine ⟨lim.keeps y.toInCall.keep, codeAny_func ?_⟩
  obtain ⟨t, ht, hq⟩ := body cdv A outer s H vs Q E hg (hr.deeper _) hsp
  have I : Inv (cxOf CX0 P w K mg base N qual (defScope st) f cdv A outer s H E) [] (L2.start N vs) H s1 := inv_start S hr.hd e0 (len _ _ _ _ hsp) r y
  refine wpAny_mono (ht.nox.run [] s1 (L2.start N vs) H _ I hq) (fun fl s' hs => ?_) fun _ _ hs => hs
  cases fl with
  | ret u =>
    obtain ⟨v, _, H', J, rv, q⟩ := hs
    exact ⟨v, H', J.os, J.bare, J.base, J.hok, rv, q⟩
  | next =>
    obtain ⟨_, H', J, q⟩ := hs
    exact ⟨.non, H', J.os, J.bare, J.base, J.hok, rfl, q⟩
  | brk => obtain ⟨_, _, _, q⟩ := hs; exact False.elim q
  | cont => obtain ⟨_, _, _, q⟩ := hs; exact False.elim q
structure HasG (P : Program) (w : World) (K : PySem.W.Frag) (mg : Str → Option Value) (base : Heap) (k : Nat) (x : Str) (sp : Sp) : Prop where
  ex : ∃ (f : Addr) (fd : FuncData) (ps : List Str), mg x = some (.ref f) ∧ FnG P w K mg base k f fd ps sp ∧ Binds K fd ps [] ∧ PySem.W.keepIn K (.ref f) = true
theorem pe_cG {X : Cx} {k j : Nat} {x : Str} {sp : Sp} {e : Expr} {es : List Expr} {t : TA} {p pos : Pos} (G : HasG X.prog X.w X.K X.mg X.base j x sp) (hgu : X.A.guards = some []) (hr : Room k X.A) (ha : PA X (e :: es) t) (hjk : j ≤ k := by decide) (hg : Gl X x := by rfl)
    (hdb : (x == ("__debug__" : Str)) = false := by decide) (he : starEach (e :: es) X.env = (false, eval e X.env) :: starEach es X.env := by rfl) (hpl : (backTo pos (starEach es X.env)).any (·.1) = false := by rfl) :
    PE X (.Call (.Name x p) (e :: es) [] pos) (tCall sp [] E0 t) := by
  obtain ⟨f, fd, ps, hm, F, b, kp⟩ := G.ex
  refine ⟨fun pins s σ H Q I h => wpAny_Call_Name_kw (ld_glob I hg hm ?_ hdb)⟩
  refine PySem.W.callWith_K (h₀ := X.base) I.ok.mod.kin kp (thn (ha.run pos pins s σ H _ I h) fun us s1 ⟨vs, H1, I1, r, q⟩ => ⟨I1.kIn, ?_⟩) he hpl
  have q' : sp vs H1 Q E0 := by
    have z : sp (vs ++ []) H1 Q E0 := q
    rwa [List.append_nil] at z
  have hl : (us ++ []).length = ps.length := by rw [List.append_nil, ← r.length]; exact F.len _ _ _ _ q'
  have hb := b s1 us I1.kIn hl
  rw [List.append_nil] at hb
  refine wpAny_call (codeAny_mono (F.run X.A X.stack s1 H1 ⟨us, []⟩ us vs Q E0 hgu (hr.mono hjk) I1.env0 hb r q') fun rr s' hq => ?_)
  cases rr with
  | error e => exact (show False from hq).elim
  | ok fl =>
    cases fl with
    | ret u => exact I1.after hq
    | next => exact False.elim hq
    | brk => exact False.elim hq
    | cont => exact False.elim hq
/-- the law's def at the end of the head -/
theorem law_callG {P : Program} {w : World} {K : PySem.W.Frag} {mg mb : Str → Option Value} {k : Nat} {fa a : Addr} {fd : FuncData} {x : Str} {sp : Sp} {s1 : Shared} {vs : List Value} {ns : List Int}
    (KX : K.In s1.heap) (hns : s1.heap.Ns mainGlobals mg) (hb : s1.heap.Ns builtinsNs mb) (hbb : ∀ x : Str, x ≠ "__name__" → mb x = bootBuiltins x) (hlim : s1.heap.NoLimit) (hg : s1.gens = #[])
    (ha : s1.heap.get? a = some { cls := .type "list", data := .seq vs.toArray }) (hi : IntsAre vs ns) (hl : ns.length ≤ sizeLine) (hr : Room k callerA)
    (F : ∀ base : Heap, K.In base → base.Ns mainGlobals mg → FnG P w K mg base k fa fd [x] sp) (hbind : ∀ (s : Shared) (u : Value), BindsTo s fd ⟨[u], []⟩ [(x, u)])
    (hsp : ∀ H : Hp, Only H → SqL K H a (ns.map V.int) → sp [.ref a] H (fun v _ => v = .bl true) fun _ _ _ => False) :
    codeAny (model P w) callerA (.call (.ref fa) ⟨[.ref a], []⟩) (fun r s' => r = .ok (.ret (.bool true)) ∧ OldK s1.heap s'.heap ∧ s'.os = s1.os ∧ AllBare s'.gens) s1 := by
  have rv := vals_ints hi
  have core : ∀ H : Hp, Only H → SqL K H a (ns.map V.int) → HOk P w H s1.heap → (∀ b, H b ≠ none → b = a) → (H a ≠ none → K.lookup a = none) →
      codeAny (model P w) callerA (.call (.ref fa) ⟨[.ref a], []⟩) (fun r s' => r = .ok (.ret (.bool true)) ∧ OldK s1.heap s'.heap ∧ s'.os = s1.os ∧ AllBare s'.gens) s1 := by
    intro H hO hS hok hA hK
    have off : ∀ {b : Addr}, b ≠ a → H b = none := fun {b} hb => by
      cases q : H b with
      | none => rfl
      | some u => exact absurd (hA b (by rw [q]; simp)) hb
    have dict_off : ∀ {b : Addr} {o : Obj} {es : Array DictEntry} {ep : Nat}, s1.heap.get? b = some o → o.data = .dict es ep → H b = none := fun {b o es ep} e d => by
      by_cases hb : b = a
      · subst hb
        rw [ha] at e
        cases e
        cases (show Data.seq vs.toArray _ = Data.dict es ep from d)
      · exact off hb
    have nsK : ∀ {b : Addr} {m : Str → Option Value}, s1.heap.Ns b m → (hidT s1.heap H).Ns b m := fun {b m} ⟨o, es, ep, e, d, r⟩ => ⟨o, es, ep, hidT_get e (dict_off e d), d, r⟩
    have kb : K.In (hidT s1.heap H) := fun b o e => hidT_get (KX b o e) (by
      by_cases hb : b = a
      · subst hb
        cases q : H b with
        | none => rfl
        | some u => rw [hK (by rw [q]; simp)] at e; cases e
      · exact off hb)
    have e0 : Env0 P w K mg (hidT s1.heap H) callerA [] s1 H := ⟨rfl, ⟨kb, nsK hns, ⟨mb, nsK hb, hbb⟩, let ⟨mc, z1, z2⟩ := hlim; ⟨mc, nsK z1, z2⟩⟩, fun b o e => of_hidT e, Nat.le_of_eq (hidT_size _ _), trivial, fun b z => absurd (show b ∈ ([] : List Addr) from z) (by simp), hok, .of_eq hg⟩
    refine codeAny_mono ((F _ kb (nsK hns)).run callerA [] s1 H ⟨[.ref a], []⟩ [.ref a] [.ref a] _ _ rfl hr e0 (hbind s1 (.ref a)) (.cons rfl .nil) (hsp H hO hS)) fun r s' h => ?_
    rcases r with e | (_ | _ | _ | u)
    · exact (show False from h).elim
    · exact False.elim h
    · exact False.elim h
    · exact False.elim h
    · obtain ⟨v, H', os, bare, un, hok', r', q⟩ := h
      obtain rfl : v = .bl true := q
      obtain rfl : u = Value.bool true := r'
      refine ⟨rfl, OldK.of_keep fun b o e => ?_, os, bare⟩
      rcases hO b with z | ⟨ob, xs, z⟩
      · exact un.keep b o e z (fun y => absurd (show b ∈ ([] : List Addr) from y) (by simp)) (by simp)
      · obtain ⟨e1, _⟩ := hok b _ z
        obtain ⟨e2, _⟩ := hok' b _ (un.frzs b ob _ z)
        rw [e] at e1
        cases e1
        exact e2
  cases hk : K.lookup a with
  | some o =>
    have e := KX a o hk
    rw [ha] at e
    cases e
    exact core (fun _ => none) (fun _ => .inl rfl) (.inr ⟨_, vs.toArray, _, hk, rfl, rfl, rfl, by rw [List.size_toArray, hi.length]; exact hl, by simpa using rv⟩) (fun b u z => by cases (show (none : Option HO) = some u from z)) (fun b z => absurd rfl z) fun z => absurd rfl z
  | none =>
    refine core (upd (fun _ => none) a (.frz { cls := .type "list", data := .seq vs.toArray } (.lst (ns.map V.int)))) (fun b => ?_) (.inl (.inr ⟨{ cls := .type "list", data := .seq vs.toArray }, upd_same⟩)) (fun b u z => ?_) (fun b z => ?_) fun _ => hk
    · by_cases hb : b = a
      · subst hb
        exact .inr ⟨_, _, upd_same⟩
      · exact .inl (by rw [upd_ne hb])
    · by_cases hb : b = a
      · subst hb
        rw [upd_same] at z
        cases z
        exact ⟨ha, by rw [List.length_map]; exact hl, vs, _, rv, ha⟩
      · rw [upd_ne hb] at z
        cases z
    · by_cases hb : b = a
      · exact hb
      · exact absurd (by rw [upd_ne hb]) z
theorem walk_G {l : PySem.W.OpenLaw} {n k : Nat} {q : Program} {loose : List Str} {XP : (Str → Option Value) → Heap → Prop} {YP : World → Heap → Prop} {d : DefRec} {x : Str}
    (hn : l.most = some n) (hn2 : n ≤ sizeLine) (hdf : d.params.defaults = []) (hr : Room k callerA)
    (F : ∀ (w : World) (mg : Str → Option Value) (fa : Addr) (h : Heap), YP w h → h.Ns mainGlobals mg → mg d.name = some (.ref fa) →
      ∃ (K : PySem.W.Frag) (fd : FuncData) (sp : Sp), K.In h ∧ (∀ (s : Shared) (u : Value), BindsTo s fd ⟨[u], []⟩ [(x, u)]) ∧
        (∀ (H : Hp) (a : Addr) (ns : List Int), ns.length ≤ n → Only H → SqL K H a (ns.map V.int) → sp [.ref a] H (fun v _ => v = .bl true) fun _ _ _ => False) ∧
        ∀ base : Heap, K.In base → base.Ns mainGlobals mg → FnG l.prog w K mg base k fa fd [x] sp) :
    PySem.W.WalkO q loose XP YP l.row.toRowW d [] (fun f vs => PySem.call f vs) := by
  refine Att.attach_call hn hdf fun w _ s1 mg mb fa o pm cd doc a vs ns G Y _ _ _ hmg hobj hints hlen hg => ?_
  obtain ⟨K, fd, sp, KX, hb, hsp, hF⟩ := F w mg fa _ Y G.T.g hmg
  exact law_callG KX G.T.g G.T.b G.T.builtins G.T.nolimit hg hobj hints (Nat.le_trans hlen hn2) hr hF hb fun H hO hS => hsp H a ns hlen hO hS
end Inf
end
section
set_option maxHeartbeats 4000000
/-! sorted of nested data, of any length. -/
namespace Inf
open PySem PySem.Calls PySem.Spec PyProof.Rows L2
def rSortD (K : PySem.W.Frag) : List V → Hp → VK → Prop := fun xs H Q => ∃ (a : Addr) (l : List (V × PyData)), xs = [.ref a] ∧ SqL K H a (l.map (·.1)) ∧ (∀ q ∈ l, Dp K H q.1 q.2 ∧ q.2.depth ≤ 40) ∧
  PySem.W.AllAlike (l.map (·.2)) ∧ PySem.W.Sortable (l.map (·.2)) ∧ ∀ p, H p = none → Q (.ref p) (upd H p (.lst ((l.mergeSort (PySem.W.dataLe false (·.2))).map (·.1))))
theorem each_vals {X : Cx} {pins : List (Addr × Obj)} {σ : L2.St} {H : Hp} {s : Shared} (I : Inv X pins σ H s) : ∀ {l : List (V × PyData)} {us : List Value}, (∀ q ∈ l, Dp X.K H q.1 q.2) → Vals (l.map (·.1)) us →
    PySem.W.EachIs (fun (u : Value) (q : V × PyData) => RelV q.1 u) us l ∧ PySem.W.EachIs (fun u (q : V × PyData) => ∃ as, Reads s.heap u q.2 as) us l
  | [], _, _, r => by
    cases r
    exact ⟨.nil, .nil⟩
  | q :: l, _, h, r => by
    cases r with
    | cons r1 r2 =>
      obtain ⟨e1, e2⟩ := each_vals I (fun z hz => h z (List.mem_cons_of_mem _ hz)) r2
      exact ⟨.cons r1 e1, .cons (Dp.reads I _ _ _ (h q List.mem_cons_self) r1) e2⟩
theorem vals_each : ∀ {l : List (V × PyData)} {us : List Value}, PySem.W.EachIs (fun (u : Value) (q : V × PyData) => RelV q.1 u) us l → Vals (l.map (·.1)) us
  | [], _, e => by
    cases e
    exact .nil
  | q :: l, _, e => by
    cases e with
    | cons e1 e2 => exact .cons e1 (vals_each e2)
theorem cr_sortD {X : Cx} (hu : X.A.units + 64 < cLine) : CallR X (.builtin "sorted") (rSortD X.K) := by
  intro pins s σ H xs us Q I r h
  obtain ⟨a, l, rfl, hl, hd, hal, hk, q⟩ := h
  obtain ⟨u, rfl, ru⟩ := vals1 r
  obtain rfl : u = Value.ref a := ru
  obtain ⟨its, rv, pl, hz⟩ := I.list hl
  obtain ⟨e1, e2⟩ := each_vals I (fun q hq => (hd q hq).1) rv
  rw [List.length_map] at hz
  refine PySem.W.sorted_data pl.isList e1 e2 hal hk hz (fun b hb => by have := (hd b hb).2; omega) fun out ho eo => ?_
  obtain ⟨ep, he⟩ := PyProof.Rows.sortedAll_at s.heap its out.toArray
  refine ⟨.ref _, upd H (s.heap.objs.size + 1) (.lst ((l.mergeSort (PySem.W.dataLe false (·.2))).map (·.1))), I.laid (t' := s.toks) (fun _ _ => PyProof.Rows.sortedAll_old) (Nat.le_succ _) ⟨?_, out, ep, vals_each eo, he⟩, rfl, q _ (I.hok.fresh (Nat.le_succ _))⟩
  rw [List.length_map, List.length_mergeSort]
  exact hz
/-- what is in order already stays -/
theorem sort_sorted {α : Type} {le : α → α → Bool} {l : List α} (h : l.Pairwise fun a b => le a b = true) : l.mergeSort le = l := List.mergeSort_of_pairwise h
theorem lexI (a b : Int) (l m : List (Int ⊕ List Nat)) : PyProof.Rows.lexLt itemOrd (.inl a :: l) (.inl b :: m) = (decide (a < b) || (!decide (b < a) && PyProof.Rows.lexLt itemOrd l m)) := rfl
theorem lexNil : PyProof.Rows.lexLt itemOrd [] [] = false := rfl
theorem le_2bars (a b c d a' b' c' d' : Int) : PySem.W.dataLe (β := PyData) false id (.tuple [.int 2, .tuple [.tuple [.int a, .int b], .tuple [.int c, .int d]]]) (.tuple [.int 2, .tuple [.tuple [.int a', .int b'], .tuple [.int c', .int d']]]) = true ↔
    (a < a' ∨ (a = a' ∧ (b < b' ∨ (b = b' ∧ (c < c' ∨ (c = c' ∧ d ≤ d')))))) := by
  rw [PySem.W.dataLe_eq]
  simp only [cond_false, id, PySem.W.dataLt, PySem.W.keyToks, PySem.W.keyToksAll, List.cons_append, List.nil_append, List.append_nil]
  repeat erw [lexI]
  erw [lexNil]
  simp only [Bool.not_eq_true', Bool.or_eq_false_iff, Bool.and_eq_false_iff, Bool.not_eq_false', decide_eq_false_iff_not, decide_eq_true_eq, Bool.or_true, Bool.or_false, Bool.and_false, Bool.and_true, Bool.not_false, Bool.not_true, Bool.true_and, Bool.false_or, decide_eq_true_eq, Int.lt_irrefl, decide_false, not_true_eq_false, not_false_eq_true]

  omega
theorem le_2marks (a b c d : Int) : PySem.W.dataLe (β := PyData) false id (.tuple [.int a, .int b]) (.tuple [.int c, .int d]) = true ↔ (a < c ∨ (a = c ∧ b ≤ d)) := by
  rw [PySem.W.dataLe_eq]
  simp only [cond_false, id, PySem.W.dataLt, PySem.W.keyToks, PySem.W.keyToksAll, List.cons_append, List.nil_append, List.append_nil]
  repeat erw [lexI]
  erw [lexNil]
  simp only [Bool.not_eq_true', Bool.or_eq_false_iff, Bool.and_eq_false_iff, Bool.not_eq_false', decide_eq_false_iff_not, decide_eq_true_eq, Bool.or_true, Bool.or_false, Bool.and_false, Bool.and_true, Bool.not_false, Bool.not_true, Bool.true_and, Bool.false_or, decide_eq_true_eq, Int.lt_irrefl, decide_false, not_true_eq_false, not_false_eq_true]

  omega
end Inf
end
section
set_option maxHeartbeats 4000000
/-! {k: v for .. for ..}: a dict comprehension of two clauses; tuple(d). -/
namespace Inf
open PySem PySem.Spec PyProof.Rows L2
/-- one turn of a clause: next, store, tests -/
def OneT (M : Model) (A : Around) (tg : Expr) (fs : List Expr) (itr : Value) (en : Env) (R : Result → Shared → Prop) (yes no : Shared → Prop) (s : Shared) : Prop :=
  wpAny M A (pyNext itr) (fun r sa => match r with
    | none => R (.ok .next) sa
    | some u => wpAny M A (letOwnedTupleGo tg itr u) (fun _ sb => wpAny M A (assign tg en u) (fun _ sc =>
        wpAny M A (forIn fs true fun c r => if r = true then do let ok ← isTrue c en (eval c en); pure (ForInStep.yield ok) else pure (ForInStep.yield r)) (fun ok sd => if ok = true then yes sd else no sd)
          (notedBy M A en fun x y => R (.error x) y) sc) (notedBy M A en fun x y => R (.error x) y) sb) (notedBy M A en fun x y => R (.error x) y) sa) (notedBy M A en fun x y => R (.error x) y) s
section
variable {Y : Cx} {pins : List (Addr × Obj)} {σ : L2.St} {H : Hp} {s : Shared} {tg : Expr} {J : It} {fp : List Addr} {it : Addr} {tn : Nat → Heap → Prop} {R : Result → Shared → Prop} {yes no : Shared → Prop} {fs : List Expr} {g : TG} {tt : TT} {vs : List Nat} {B : Bool → L2.St → Hp → Prop}
theorem thnX {α : Type} {t : Sem α} {Q Q' : α → Shared → Prop} {E : Value → Shared → Prop} (hx : Y.xe = fun _ _ => False) (h : wpAny (model Y.prog Y.w) Y.A t Q Y.xe s) (hQ : ∀ a s, Q a s → Q' a s) : wpAny (model Y.prog Y.w) Y.A t Q' E s := wpAny_mono h hQ fun e s z => by rw [hx] at z; exact z.elim
theorem one_stop {i : Nat} (T : Turn Y.prog Y.w Y.K tg J fp it tn) (hc : Y.calm = true) (I : Inv Y pins σ H s) (hf : ∀ b ∈ fp, FpOk Y pins H b) (st : tn i s.heap) (stop : J.stop i H) (q : ∀ s', Inv Y pins σ H s' → R (.ok .next) s') :
    OneT (model Y.prog Y.w) Y.A tg fs (.ref it) Y.env R yes no s := by
  refine thnF (T.done Y rfl rfl rfl hc i pins s σ H (fun _ _ => False) I hf st stop) fun r sa ⟨e, Ia⟩ => ?_
  rw [e]
  exact q sa Ia
/-- the turn's end: the iterator stands as the store left it -/
theorem turn_back {hp : Heap} {j : Nat} {σ' : L2.St} {H' : Hp} {s' : Shared} (T : Turn Y.prog Y.w Y.K tg J fp it tn) (st : tn j hp) (I : Inv Y (pins ++ pinsAt fp hp) σ' H' s') : tn j s'.heap ∧ (∀ b ∈ fp, H' b = none) := by
  have z : ∀ b ∈ fp, ∀ o, hp.get? b = some o → s'.heap.get? b = some o ∧ H' b = none := fun b hb o e =>
    let y := I.pin (b, o) (List.mem_append_right _ (List.mem_append_right _ (mem_pinsAt hb e)))
    ⟨y.1, y.2.1⟩
  exact ⟨T.keep _ _ _ st fun b hb o e => (z b hb o e).1, fun b hb => let ⟨o, e, _⟩ := T.obj _ _ st b hb; (z b hb o e).2⟩
theorem one_go {i : Nat} (T : Turn Y.prog Y.w Y.K tg J fp it tn) (hc : Y.calm = true) (hx : Y.xe = fun _ _ => False) (pg : PG Y tg g) (pt : PTs Y fs tt) (I : Inv Y pins σ H s) (hf : ∀ b ∈ fp, b ∈ fp → ∀ H', H' b = none → FpOk Y pins H' b) (h0 : ∀ b ∈ fp, H b = none) (st : tn i s.heap) (go : J.go i H)
    (step : ∀ x H', J.yld i H x H' → g x σ H' fun σ2 H2 => wipe σ2 vs = σ ∧ tt σ2 H2 fun b H3 => B b σ2 H3)
    (q : ∀ b hp σ2 H3 s', tn (i + 1) hp → Inv Y (pins ++ pinsAt fp hp) σ2 H3 s' → wipe σ2 vs = σ → B b σ2 H3 → if b = true then yes s' else no s') :
    OneT (model Y.prog Y.w) Y.A tg fs (.ref it) Y.env R yes no s := by
  refine thnF (T.item Y rfl rfl rfl hc i pins s σ H (fun _ _ => False) I (fun b hb => hf b hb hb H (h0 b hb)) st go) fun r sa ⟨u, e, ha⟩ => ?_
  rw [e]
  refine thnF ha fun _ sb ⟨x, Hb, Ib, rb, yb, stb, nb⟩ => ?_
  have Ib' := Ib.pinned (fun b hb => hf b hb hb Hb (nb b hb)) (T.obj _ _ stb)
  refine thnX hx (pg.run _ sb σ Hb x u _ Ib' rb (step x Hb yb)) fun _ sc ⟨σc, Hc, Ic, wc, qc⟩ => ?_
  refine thnX hx (pt.run _ sc σc Hc _ Ic qc) fun b sd ⟨Hd, Id, qd⟩ => ?_
  exact q b sb.heap σc Hd sd stb Id wc qd
end
section
variable {P : Program} {w : World} {A : Around} {R : Result → Shared → Prop} {s : Shared} {ke ve ga gb ra rb : Expr} {fa fb : List Expr} {sc : Scope} {po : Pos} {itr acc : Value} {D : Addr} {en : Env}
abbrev dc2 (ke ve ga ra : Expr) (fa : List Expr) (gb rb : Expr) (fb : List Expr) (sc : Scope) (po : Pos) : Expr := .DictComp ke ve [⟨ga, ra, fa, 0⟩, ⟨gb, rb, fb, 0⟩] sc po
theorem dc2_turn0 : compTurn (dc2 ke ve ga ra fa gb rb fb sc po) 0 itr acc en = (do
      standAt ra.pos
      match ← pyNext itr with
      | none => pure (.done .next)
      | some u =>
        letOwnedTupleGo ga itr u
        assign ga en u
        let mut ok := true
        for c in fa do
          if ok then ok ← isTrue c en (eval c en)
        if ok then
          let x ← eval rb en
          standAt rb.pos
          let x ← foldedSetIterable rb en x
          let _ ← runOwn (.compStart (dc2 ke ve ga ra fa gb rb fb sc po) 1 (← holding [x] (pyIter x)) acc en) en
        again (.compLoop (dc2 ke ve ga ra fa gb rb fb sc po) 0 itr acc en)) := by rfl
theorem dc2_turn1 : compTurn (dc2 ke ve ga ra fa gb rb fb sc po) 1 itr (.ref D) en = (do
      standAt rb.pos
      match ← pyNext itr with
      | none => pure (.done .next)
      | some u =>
        letOwnedTupleGo gb itr u
        assign gb en u
        let mut ok := true
        for c in fb do
          if ok then ok ← isTrue c en (eval c en)
        if ok then
          (do
            let a ← eval ke en
            let b ← holding [a] (eval ve en)
            standAt { ke.pos with endLine := ve.pos.endLine, endCol := ve.pos.endCol }
            holding [a, b] (dictSet D a b))
        again (.compLoop (dc2 ke ve ga ra fa gb rb fb sc po) 1 itr (.ref D) en)) := by rfl
/-- the second clause begins -/
theorem dc2_start1 (h0 : codeAny (model P w) A (.compLoop (dc2 ke ve ga ra fa gb rb fb sc po) 1 itr acc en) R s)
    (h : wpAny (model P w) A (pyIter itr) (fun j s' => codeAny (model P w) A (.compLoop (dc2 ke ve ga ra fa gb rb fb sc po) 1 j acc en) R s') (notedBy (model P w) A en fun x y => R (.error x) y) s) :
    codeAny (model P w) A (.compStart (dc2 ke ve ga ra fa gb rb fb sc po) 1 itr acc en) R s := by
  refine codeAny_of_tree ?_
  show wpAny _ A ((compStart (dc2 ke ve ga ra fa gb rb fb sc po) 1 itr acc en).onRaise (fun x => do noteFrame x en; standAt theWindowsPlace)) _ _ s
  refine wpAny_notedAt ?_
  unfold compStart
  show wpAny _ A (ask >>= _) _ _ s
  refine wpAny_bind (wpAny_askSetting (wpAny_ite ?_))
  split
  · first
      | exact wpAny_bind (wpAny_pure (wpAny_pure (And.intro rfl h0)))
      | exact wpAny_pure (And.intro rfl h0)
  · first
      | exact wpAny_bind (wpAny_rule (wpAny_bind (wpAny_standAt (wpAny_bind (wpAny_mono h (fun j s' h' => wpAny_pure (And.intro rfl h')) fun _ _ x => x)))))
      | (refine wpAny_bind (wpAny_rule ?_); show wpAny _ A (standAt rb.pos >>= _) _ _ s; exact wpAny_bind (wpAny_standAt (wpAny_bind (wpAny_mono h (fun j s' h' => wpAny_pure (And.intro rfl h')) fun _ _ x => x))))
theorem dc2_loop0 (hs : ∀ x, foldedSetIterable rb en x = pure x) (I : Nat → Shared → Prop)
    (turn : ∀ n s, I n s → OneT (model P w) A ga fa itr en R (fun sd => wpAny (model P w) A (eval rb en) (fun x se => wpAny (model P w) A (pyIter x) (fun j sf =>
        codeAny (model P w) A (.compStart (dc2 ke ve ga ra fa gb rb fb sc po) 1 j acc en) (fun r s' => match r with | .ok _ => ∃ m, m < n ∧ I m s' | .error _ => False) sf)
          (notedBy (model P w) A en fun x y => R (.error x) y) se) (notedBy (model P w) A en fun x y => R (.error x) y) sd) (fun sd => ∃ m, m < n ∧ I m sd) s) (n : Nat) (h : I n s) :
    codeAny (model P w) A (.compLoop (dc2 ke ve ga ra fa gb rb fb sc po) 0 itr acc en) R s := by
  refine codeAny_loop rfl I (fun n s hI => ?_) n h
  show wpAny _ A ((compTurn (dc2 ke ve ga ra fa gb rb fb sc po) 0 itr acc en).onRaise (fun x => do noteFrame x en; theTreesLotGoes x)) _ _ s
  refine wpAny_noted ?_
  rw [dc2_turn0]
  refine wpAny_bind (wpAny_standAt (wpAny_bind (wpAny_mono (turn n s hI) (fun r sa ha => ?_) fun _ _ z => z)))
  cases r with
  | none => exact wpAny_pure ha
  | some u =>
    refine wpAny_bind (wpAny_mono ha (fun _ sb hb => wpAny_bind (wpAny_mono hb (fun _ sc hc => wpAny_bind (wpAny_mono hc (fun ok sd hd => ?_) fun _ _ z => z)) fun _ _ z => z)) fun _ _ z => z)
    cases ok with
    | false => exact wpAny_pure ⟨rfl, hd⟩
    | true =>
      refine wpAny_bind (wpAny_mono hd (fun x se he => wpAny_bind (wpAny_standAt (wpAny_bind (wpAny_of_eq (hs x) (wpAny_bind (wpAny_holding (wpAny_mono he (fun j sf hf => ?_) fun _ _ z => z))))))) fun _ _ z => z)
      refine wpAny_bind (wpAny_runOwn ?_)
      rw [Around.mark_none]
      refine codeAny_mono hf fun r s' hr => ?_
      cases r with
      | ok f =>
        first
          | exact wpAny_pure ⟨rfl, hr⟩
          | exact wpAny_bind (wpAny_pure (wpAny_pure ⟨rfl, hr⟩))
      | error e => exact hr.elim
theorem dc2_loop1 (I : Nat → Shared → Prop)
    (turn : ∀ n s, I n s → OneT (model P w) A gb fb itr en R (fun sd => wpAny (model P w) A (eval ke en) (fun a se => wpAny (model P w) A (eval ve en) (fun b sf =>
        wpAny (model P w) A (dictSet D a b) (fun _ s' => ∃ m, m < n ∧ I m s')
          (notedBy (model P w) A en fun x y => R (.error x) y) sf) (notedBy (model P w) A en fun x y => R (.error x) y) se) (notedBy (model P w) A en fun x y => R (.error x) y) sd) (fun sd => ∃ m, m < n ∧ I m sd) s) (n : Nat) (h : I n s) :
    codeAny (model P w) A (.compLoop (dc2 ke ve ga ra fa gb rb fb sc po) 1 itr (.ref D) en) R s := by
  refine codeAny_loop rfl I (fun n s hI => ?_) n h
  show wpAny _ A ((compTurn (dc2 ke ve ga ra fa gb rb fb sc po) 1 itr (.ref D) en).onRaise (fun x => do noteFrame x en; theTreesLotGoes x)) _ _ s
  refine wpAny_noted ?_
  rw [dc2_turn1]
  refine wpAny_bind (wpAny_standAt (wpAny_bind (wpAny_mono (turn n s hI) (fun r sa ha => ?_) fun _ _ z => z)))
  cases r with
  | none => exact wpAny_pure ha
  | some u =>
    refine wpAny_bind (wpAny_mono ha (fun _ sb hb => wpAny_bind (wpAny_mono hb (fun _ sc hc => wpAny_bind (wpAny_mono hc (fun ok sd hd => ?_) fun _ _ z => z)) fun _ _ z => z)) fun _ _ z => z)
    cases ok with
    | false => exact wpAny_pure ⟨rfl, hd⟩
    | true =>
      exact wpAny_bind (wpAny_bind (wpAny_mono hd (fun a se he => wpAny_bind (wpAny_holding (wpAny_mono he (fun b sf hf => wpAny_bind (wpAny_standAt (wpAny_holding (wpAny_mono hf (fun _ s' h' => wpAny_pure ⟨rfl, h'⟩) fun _ _ z => z)))) fun _ _ z => z))) fun _ _ z => z))
end
section
variable {X : Cx}
/-- the walk of the second clause -/
def tIn (J : It) (Nx : Hp → Prop) (D : Addr) (g : TG) (tt : TT) (tk tv : TE) (vs : List Nat) (σ : L2.St) (H : Hp) : Prop := ∃ W : Nat → Nat → Hp → Prop, (∃ m, W 0 m H) ∧ ∀ j k H, W j k H →
  (J.stop j H ∧ Nx H) ∨ (J.go j H ∧ ∃ Ny : Hp → Prop, (∀ H', Ny H' → ∃ k', k' < k ∧ W (j + 1) k' H') ∧ ∀ x H', J.yld j H x H' → g x (wipe σ vs) H' fun σ3 H5 => wipe σ3 vs = wipe σ vs ∧ tt σ3 H5 fun b H6 =>
    if b = true then tk σ3 H6 fun y H7 => tv σ3 H7 fun z H8 => ∃ kvs c, y = kV c ∧ H8 D = some (.dK kvs) ∧ kvs.length < sizeLine ∧ Ny (upd H8 D (.dK (putK kvs c z))) else Ny H6)
def tDc2 (wi : TI) (g : TG) (tt : TT) (wi1 : TI) (g1 : TG) (tt1 : TT) (tk tv : TE) (vs vs1 : List Nat) : TE := fun σ H Q => wi σ H fun J H1 => ∀ D, H1 D = none → ∃ W : Nat → Nat → Hp → Prop, (∃ m, W 0 m (upd H1 D (.dK []))) ∧ ∀ i m H, W i m H →
  (J.stop i H ∧ Q (.ref D) H) ∨ (J.go i H ∧ ∃ Nx : Hp → Prop, (∀ H', Nx H' → ∃ m', m' < m ∧ W (i + 1) m' H') ∧ ∀ x H', J.yld i H x H' → g x (wipe σ vs) H' fun σ2 H2 => wipe σ2 vs = wipe σ vs ∧ tt σ2 H2 fun b H3 =>
    if b = true then wi1 σ2 H3 fun J1 H4 => tIn J1 Nx D g1 tt1 tk tv vs1 σ2 H4 else Nx H3)
/-- the second clause as a whole, in the block -/
theorem dc2_inner {ke ve ga gb ra rb : Expr} {fa fb : List Expr} {sc : Scope} {po : Pos} {pins : List (Addr × Obj)} {σ : L2.St} {H : Hp} {s : Shared} {J : It} {fp : List Addr} {it D : Addr} {tn : Nat → Heap → Prop} {g : TG} {tt : TT} {tk tv : TE} {vs : List Nat} {Nx : Hp → Prop} {Fin : Shared → Prop}
    (hc : X.calm = true) (hx : X.xe = fun _ _ => False) (T : Turn X.prog X.w X.K gb J fp it tn) (pg : PG X gb g) (pt : PTs X fb tt) (pk : PE X ke tk) (pv' : PE X ve tv) (I : Inv X pins σ H s) (st : tn 0 s.heap) (hf : ∀ b ∈ fp, FpOk X pins H b) (h : tIn J Nx D g tt tk tv vs σ H)
    (fin : ∀ H' s', Inv X pins (wipe σ vs) H' s' → Nx H' → Fin s') :
    codeAny (model X.prog X.w) X.A (.compStart (dc2 ke ve ga ra fa gb rb fb sc po) 1 (.ref it) (.ref D) X.env) (fun r s' => match r with | .ok _ => Fin s' | .error _ => False) s := by
  obtain ⟨W, ⟨m0, w0⟩, turn⟩ := h
  have ff : ∀ b ∈ fp, b ∈ fp → ∀ H', H' b = none → FpOk X pins H' b := fun b hb _ H' hn => ⟨hn, (hf b hb).2⟩
  have loop : codeAny (model X.prog X.w) X.A (.compLoop (dc2 ke ve ga ra fa gb rb fb sc po) 1 (.ref it) (.ref D) X.env) (fun r s' => match r with | .ok _ => Fin s' | .error _ => False) s := by
    refine dc2_loop1 (fun k s' => ∃ j H', Inv X pins (wipe σ vs) H' s' ∧ tn j s'.heap ∧ (∀ b ∈ fp, H' b = none) ∧ W j k H') ?_ m0 ⟨0, H, I.weak (wipe_length _ _) (fun j v e => (wipe_some e).1), st, fun b hb => (hf b hb).1, w0⟩
    rintro k s1 ⟨j, H1, I1, st1, n1, w1⟩
    rcases turn j k H1 w1 with ⟨stop, nx⟩ | ⟨go, Ny, hNy, step⟩
    · exact one_stop T hc I1 (fun b hb => ff b hb hb _ (n1 b hb)) st1 stop fun s' I' => fin H1 s' I' nx
    · refine one_go (vs := vs) T hc hx pg pt I1 ff n1 st1 go step fun b hp σ2 H3 s2 st2 I2 w2 q2 => ?_
      have done : ∀ {H' : Hp} {s' : Shared}, Inv X (pins ++ pinsAt fp hp) σ2 H' s' → Ny H' → ∃ m, m < k ∧ ∃ j H', Inv X pins (wipe σ vs) H' s' ∧ tn j s'.heap ∧ (∀ b ∈ fp, H' b = none) ∧ W j m H' := fun {H' s'} I' ny => by
        obtain ⟨k', hk, w'⟩ := hNy H' ny
        obtain ⟨z1, z2⟩ := turn_back T st2 I'
        exact ⟨k', hk, j + 1, H', I'.unpinned.weak (by rw [← w2, wipe_length]) (fun j v e => by rw [← w2] at e; exact (wipe_some e).1), z1, z2, w'⟩
      cases b with
      | false =>
        simp only [Bool.false_eq_true, if_false] at q2 ⊢
        exact done I2 q2
      | true =>
        simp only [if_true] at q2 ⊢
        refine thnX hx (pk.run _ s2 σ2 H3 _ I2 q2) fun a s3 ⟨ya, H4, I4, r4, q4⟩ => ?_
        refine thnX hx (pv'.run _ s3 σ2 H4 _ I4 q4) fun b s4 ⟨yb, H5, I5, r5, kvs, c, ec, hD, hz, ny⟩ => ?_
        subst ec
        exact d_dictSet I5 hD hz r4 r5 fun s6 I6 => done I6 ny
  exact dc2_start1 loop (T.self X.A 0 _ _ _ st loop)
theorem wipe_away {σ : L2.St} {i : Nat} : ∀ {vs : List Nat}, i ∉ vs → (wipe σ vs)[i]? = σ[i]?
  | [], _ => rfl
  | v :: vs, h => by
    have a : v ≠ i := fun e => h (e ▸ List.mem_cons_self)
    show ((wipe σ vs).set v none)[i]? = _
    rw [List.getElem?_set_ne a, wipe_away fun m => h (List.mem_cons_of_mem _ m)]
theorem pe_dc2 {ke ve ga gb ra rb : Expr} {fa fb : List Expr} {sc : Scope} {po : Pos} {own : List (Str × Nat)} {vs1 : List Nat} {wi wi1 : TI} {g g1 : TG} {tt tt1 : TT} {tk tv : TE} (hc : X.calm = true) (hN : X.N.Nodup) (hi : PI X ga ra wi) (ok : BlkOk X.N X.env.scope sc own) (hv : ∀ i ∈ vs1, i ∈ own.map (·.2))
    (hg : ∀ (s : Shared) (H : Hp) (C : Addr) (cl : List (Str × Addr)) (fp : List Addr), PG (X.blk s H sc (compEnvC sc cl C X.env) fp) ga g) (ht : ∀ (s : Shared) (H : Hp) (C : Addr) (cl : List (Str × Addr)) (fp : List Addr), PTs (X.blk s H sc (compEnvC sc cl C X.env) fp) fa tt)
    (hi1 : ∀ (s : Shared) (H : Hp) (C : Addr) (cl : List (Str × Addr)) (fp : List Addr), PI (X.blk s H sc (compEnvC sc cl C X.env) fp) gb rb wi1)
    (hg1 : ∀ (s : Shared) (H : Hp) (C : Addr) (cl : List (Str × Addr)) (fp : List Addr), PG (X.blk s H sc (compEnvC sc cl C X.env) fp) gb g1) (ht1 : ∀ (s : Shared) (H : Hp) (C : Addr) (cl : List (Str × Addr)) (fp : List Addr), PTs (X.blk s H sc (compEnvC sc cl C X.env) fp) fb tt1)
    (hk : ∀ (s : Shared) (H : Hp) (C : Addr) (cl : List (Str × Addr)) (fp : List Addr), PE (X.blk s H sc (compEnvC sc cl C X.env) fp) ke tk) (he : ∀ (s : Shared) (H : Hp) (C : Addr) (cl : List (Str × Addr)) (fp : List Addr), PE (X.blk s H sc (compEnvC sc cl C X.env) fp) ve tv)
    (hs : ∀ x, foldedSetIterable ra X.env x = pure x := by intro _; rfl) (hs1 : ∀ en x, foldedSetIterable rb en x = pure x := by intro _ _; rfl) :
    PE X (dc2 ke ve ga ra fa gb rb fb sc po) (tDc2 wi g tt wi1 g1 tt1 tk tv (own.map (·.2)) vs1) := by
  refine ⟨fun pins s σ H Q I h => ?_⟩
  show wpAny _ _ (eval (.DictComp ke ve [⟨ga, ra, fa, 0⟩, ⟨gb, rb, fb, 0⟩] sc po) X.env) _ _ _
  rw [arm_eval_DictComp]
  have hfree : ∀ y ∈ sc.names, y.2 = .free → ∃ c, X.env.cells.lookup y.1 = some c := fun y hy e => (ok.free y hy e).elim (fun k => I.ok.has _ (.inl k)) fun k => I.ok.has _ (.inr k)
  refine wpAny_comprehension_free (use := none) rfl hs (closure_ok hfree) ok.kind (fun y hy e => by rw [ok.uniq y hy, e]) (thn (hi.run pins s σ H _ I h) fun xv s1 hx => thn hx fun itv s2 h2 => ?_)
  obtain ⟨it, fp, tn, J, H2, e, I2, T, st2, f2, q⟩ := h2
  subst e
  refine wpAny_newObj_type (newEnv_comp ?_)
  obtain ⟨W, ⟨m0, w0⟩, turn⟩ := q s2.heap.objs.size (I2.hok.fresh (Nat.le_refl _))
  have fresh : H2 s2.heap.objs.size = none := I2.hok.fresh (Nat.le_refl _)
  generalize hD : s2.heap.objs.size = D at w0 turn fresh
  generalize hs3 : ({ s2 with heap := s2.heap.push { cls := .type "dict", data := .dict #[] } } : Shared) = s3
  have h3 : s3.heap = s2.heap.push { cls := .type "dict", data := .dict #[] } := by rw [← hs3]
  have I3 : Inv X pins σ (upd H2 D (.dK [])) s3 := by
    rw [← hs3, ← hD]
    exact I2.laid (t' := s2.toks) (fun b o e => Heap.get?_push_of_some _ e) (Nat.le_refl _) (dk_empty s2.heap I2.big)
  have f3 : ∀ b ∈ fp, FpOk X pins (upd H2 D (.dK [])) b ∧ b < s3.heap.objs.size := fun b hb => by
    obtain ⟨o, e, _⟩ := T.obj _ _ st2 b hb
    have lt : b < s2.heap.objs.size := Heap.lt_size e
    exact ⟨⟨by rw [upd_ne (by rw [← hD]; exact Nat.ne_of_lt lt)]; exact (f2 b hb).1, (f2 b hb).2⟩, by rw [h3, Heap.size_push]; exact Nat.lt_succ_of_lt lt⟩
  have st3 : tn 0 s3.heap := T.keep _ _ _ st2 fun b _ o e => by rw [h3]; exact Heap.get?_push_of_some _ e
  generalize upd H2 D (.dK []) = H3 at I3 f3 w0
  have I4 := block_start I3 ok hN f3
  have pa := hg s3 H3 s3.heap.objs.size (cellsFrom (s3.heap.objs.size + 1) sc.names (cloFrom X.env.cells sc.names [])) fp
  have pb := ht s3 H3 s3.heap.objs.size (cellsFrom (s3.heap.objs.size + 1) sc.names (cloFrom X.env.cells sc.names [])) fp
  have pi := hi1 s3 H3 s3.heap.objs.size (cellsFrom (s3.heap.objs.size + 1) sc.names (cloFrom X.env.cells sc.names [])) fp
  have pa1 := hg1 s3 H3 s3.heap.objs.size (cellsFrom (s3.heap.objs.size + 1) sc.names (cloFrom X.env.cells sc.names [])) fp
  have pb1 := ht1 s3 H3 s3.heap.objs.size (cellsFrom (s3.heap.objs.size + 1) sc.names (cloFrom X.env.cells sc.names [])) fp
  have pk := hk s3 H3 s3.heap.objs.size (cellsFrom (s3.heap.objs.size + 1) sc.names (cloFrom X.env.cells sc.names [])) fp
  have pv2 := he s3 H3 s3.heap.objs.size (cellsFrom (s3.heap.objs.size + 1) sc.names (cloFrom X.env.cells sc.names [])) fp
  show codeAny _ _ (.compStart (dc2 ke ve ga ra fa gb rb fb sc po) 0 (.ref it) (.ref D) (compEnvC sc (cellsFrom (s3.heap.objs.size + 1) sc.names (cloFrom X.env.cells sc.names [])) s3.heap.objs.size X.env)) (compPost (model X.prog X.w) X.A X.xe none _ (.ref D) s3.heap.objs.size) { s3 with heap := pushCells (s3.heap.push { cls := .type "dict", data := .dict #[] }) sc.names }
  generalize hce : compEnvC sc (cellsFrom (s3.heap.objs.size + 1) sc.names (cloFrom X.env.cells sc.names [])) s3.heap.objs.size X.env = ce at I4 pa pb pi pa1 pb1 pk pv2 ⊢
  have cL : ce.locals = s3.heap.objs.size := by subst hce; rfl
  generalize hs4 : ({ s3 with heap := pushCells (s3.heap.push { cls := .type "dict", data := .dict #[] }) sc.names } : Shared) = s4 at I4 ⊢
  have st4 : tn 0 s4.heap := T.keep _ _ _ st3 fun b _ o e => by rw [← hs4]; exact pushCells_keeps _ _ _ _ (Heap.get?_push_of_some _ e)
  have loop : codeAny (model X.prog X.w) X.A (.compLoop (dc2 ke ve ga ra fa gb rb fb sc po) 0 (.ref it) (.ref D) ce) (compPost (model X.prog X.w) X.A X.xe none (fun v s1 => ∃ y H', Inv X pins σ H' s1 ∧ RelV y v ∧ Q y H') (.ref D) s3.heap.objs.size) s4 := by
    refine dc2_loop0 (hs1 ce) (fun n s' => ∃ i H', Inv (X.blk s3 H3 sc ce fp) [] (wipe σ (own.map (·.2))) H' s' ∧ tn i s'.heap ∧ (∀ b ∈ fp, H' b = none) ∧ W i n H') ?_ m0 ⟨0, H3, I4, st4, fun b hb => (f3 b hb).1.1, w0⟩
    rintro n s5 ⟨i, H5, I5, st5, n5, w5⟩
    have ff : ∀ b ∈ fp, b ∈ fp → ∀ H', H' b = none → FpOk (X.blk s3 H3 sc ce fp) [] H' b := fun b hb _ H' hn =>
      ⟨hn, (I5.ok.exf b hb).1, I5.ok.exfs b hb, .inl hb, fun x c e => (I5.ok.exf b hb).2 x c e, fun p hp => absurd (show p ∈ ([] : List (Addr × Obj)) ++ [] from hp) (by simp)⟩
    rcases turn i n H5 w5 with ⟨stop, qq⟩ | ⟨go, Nx, hNx, step⟩
    · refine one_stop (Y := X.blk s3 H3 sc ce fp) T hc I5 (fun b hb => ff b hb hb _ (n5 b hb)) st5 stop fun s6 I6 => ?_
      have I7 : Inv X pins σ H5 s6 := I3.call' (ch := fp) I6.os I6.base I6.hok I6.bare fun b hb => ⟨(f3 b hb).1.2.2.2.1, (f3 b hb).1.2.1, (f3 b hb).1.2.2.2.2.1, (f3 b hb).1.2.2.2.2.2⟩
      have nC : H5 s3.heap.objs.size = none := cL ▸ (show H5 ce.locals = none from I6.free)
      obtain ⟨m, hn, _⟩ := I6.loc
      have hn' : s6.heap.Ns s3.heap.objs.size m := cL ▸ (show s6.heap.Ns ce.locals m from hn)
      obtain ⟨a0, a1, a2, a3, a4, a5⟩ := I3.fpOk (H' := H5) (Nat.le_refl _) nC
      exact ⟨m, hn', fun h'' sb => ⟨.ref D, H5, I7.turned (t' := s6.toks) (fun b o hb e => (sb.2 b hb).trans e) a0 a1 a3 a4 a5, rfl, qq⟩⟩
    · refine one_go (Y := X.blk s3 H3 sc ce fp) (vs := own.map (·.2)) T hc rfl pa pb I5 ff n5 st5 go step fun b hp σ2 H6 s6 st6 I6 w6 q6 => ?_
      have done : ∀ {σ' : L2.St} {H' : Hp} {s' : Shared}, Inv (X.blk s3 H3 sc ce fp) ([] ++ pinsAt fp hp) σ' H' s' → (wipe σ (own.map (·.2))).length = σ'.length → (∀ (j : Nat) v, (wipe σ (own.map (·.2)))[j]? = some (some v) → σ'[j]? = some (some v)) → Nx H' →
          ∃ m, m < n ∧ ∃ i H', Inv (X.blk s3 H3 sc ce fp) [] (wipe σ (own.map (·.2))) H' s' ∧ tn i s'.heap ∧ (∀ b ∈ fp, H' b = none) ∧ W i m H' := fun {σ' H' s'} I' hl hk nx => by
        obtain ⟨m', hm, w'⟩ := hNx H' nx
        obtain ⟨z1, z2⟩ := turn_back (Y := X.blk s3 H3 sc ce fp) T st6 I'
        exact ⟨m', hm, i + 1, H', (I'.unpinned (pins := [])).weak hl hk, z1, z2, w'⟩
      have k6 : ∀ (j : Nat) v, (wipe σ (own.map (·.2)))[j]? = some (some v) → σ2[j]? = some (some v) ∧ j ∉ own.map (·.2) := fun j v e => by
        rw [← w6] at e
        exact wipe_some e
      have l6 : (wipe σ (own.map (·.2))).length = σ2.length := by rw [← w6, wipe_length]
      cases b with
      | false =>
        simp only [Bool.false_eq_true, if_false] at q6 ⊢
        exact done I6 l6 (fun j v e => (k6 j v e).1) q6
      | true =>
        simp only [if_true] at q6 ⊢
        refine thnF (pi.run _ s6 σ2 H6 _ I6 q6) fun xv s7 hx => thnF hx fun jv s8 h8 => ?_
        obtain ⟨it1, fp1, tn1, J1, H8, e8, I8, T1, st8, f8, q8⟩ := h8
        subst e8
        refine dc2_inner (X := X.blk s3 H3 sc ce fp) hc rfl T1 pa1 pb1 pk pv2 I8 st8 f8 q8 fun H' s' I' nx => ?_
        refine done I' (l6.trans (wipe_length σ2 vs1).symm) (fun j v e => ?_) nx
        obtain ⟨e1, e2⟩ := k6 j v e
        rw [wipe_away fun z => e2 (hv j z)]
        exact e1
  exact codeAny_compStart_dict loop (T.self X.A 0 _ _ _ st4 loop)
end
end Inf
end
section
set_option maxHeartbeats 4000000
/-! tuple(d) of a dict. -/
namespace Inf
open PySem PySem.Spec PyProof.Rows L2
section
variable {prog : Program} {w : World} {A : Around} {E : Value → Shared → Prop} {s : Shared} {T : String} {r d : Addr} {n : Nat} {Pv : Nat → Value → Prop} {OK : Heap → Prop}
theorem tuple_src {R : Value → Shared → Prop} (S : PySem.W.KdlSrc prog w T r d n Pv OK) (hT : s.TypeIs (.ref r) T) (hne : (Value.type T == Value.type "tuple") = false) (hh : A.handled = none) (hok : OK s.heap) (hn : n ≤ sizeLine)
    (q : ∀ (h' : Heap) (tk : Nat) (acc : Array Value), (∀ b o, s.heap.get? b = some o → h'.get? b = some o) → ItemsOf Pv acc n → R (.ref h'.objs.size) { s with heap := h'.push { cls := .type "tuple", data := .seq acc }, toks := tk }) :
    wpAny (model prog w) A (call (.type "tuple") [.ref r]) R E s := by
  refine callType_codes (Q₁ := fun u s1 => s1.TypeIs u "tuple" ∧ R u s1) F.called_tuple (F.typeCall_tuple_1 _) F.entry_object_init ?_ fun u s1 h1 =>
    ⟨h1.1, F.args_object_init_2 u _, object_init_meets F.called_tuple.init.lookup F.called_tuple.made (by decide) prog w A.in1 _ s1 ⟨h1.1, rfl, h1.2⟩⟩
  refine codeAny_of_tree ?_
  show wpAny _ A.in1.in1 (do checkBuiltinCall "tuple.__new__" ⟨[.type "tuple", .ref r], []⟩; again (.builtin "tuple.__new__" ⟨[.type "tuple", .ref r], []⟩)) _ _ s
  refine wpAny_bind (wpAny_of_eq (F.newCall_tuple_1 _) (wpAny_pure ⟨plainId_quiet F.plain_tuple_new _, codeAny_builtin F.entry_tuple_new ?_⟩))
  rw [Around.under_plainId F.plain_tuple_new _]
  have k1 := sub_tuple_self
  have k2 := init_tuple_lookup
  have k3 := madeHere_tuple
  have h1 : A.in1.in1.handled = none := hh
  wp_walk using wpAny_typeOf hT, PySem.W.kdu_collect S h1 hok hn
  intro h' tk acc hk hacc
  show wpAny _ _ (Builtin.Tuple.tupleExact acc.toList.toArray >>= fun v => ret v) _ _ _
  unfold Builtin.Tuple.tupleExact
  refine wpAny_bind (wpAny_newObj_type ?_ (by show acc.toList.toArray.size ≤ sizeLine; rw [Array.toArray_toList, hacc.1]; exact hn))
  refine wpAny_pure ?_
  rw [Array.toArray_toList]
  exact ⟨⟨_, Heap.get?_push_size _ rfl, rfl⟩, q h' tk acc hk hacc⟩
end
theorem call_tupleD {X : Cx} (hc : X.calm = true) : CallR X (.type "tuple") (fun xs H Q => ∃ (a : Addr) (kvs : List (Key × V)), xs = [.ref a] ∧ H a = some (.dK kvs) ∧ ∀ p, H p = none → Q (.ref p) (upd H p (.tup (kvs.map fun kv => kV kv.1)))) := by
  intro pins s σ H xs us Q I r h
  obtain ⟨a, kvs, rfl, hd, q⟩ := h
  obtain ⟨u, rfl, ru⟩ := vals1 r
  obtain rfl : u = Value.ref a := ru
  obtain ⟨z, lo, vs, rk, dd⟩ := dk_of I.hok hd
  obtain ⟨ep, hat⟩ := dd.dictAt
  have hl : kvs.length = vs.length := Paired.length rk
  have hT : s.TypeIs (.ref a) "dict" := hat.dictOf.typeIs
  refine tuple_src (PySem.W.kdl_dict (knd := mixKind X.prog X.w) (kvs := vs) (ep := ep) lo) hT (by decide) (I.ok.hd hc) hat (by rw [← hl]; exact z) fun h' tk acc k i => ?_
  have I1 : Inv X pins σ H { s with heap := h', toks := tk } := I.kept k
  have rv : Vals (kvs.map fun kv => kV kv.1) acc.toList := by
    refine vals_of_at (by rw [List.length_map, hl, ← i.1]; simp) fun j x u h1 h2 => ?_
    obtain ⟨c, y, hky, hi⟩ := i.2 j u (by rw [← Array.getElem?_toList]; exact h2)
    have e1 : (kvs.map (·.1))[j]? = some c := by
      rw [KV.keys rk, List.getElem?_map, hky] <;> rfl
    have e2 : (kvs.map fun kv => kV kv.1)[j]? = some (kV c) := by
      have e3 : (kvs.map fun kv => kV kv.1) = (kvs.map (·.1)).map kV := by rw [List.map_map] <;> rfl
      rw [e3, List.getElem?_map, e1] <;> rfl
    rw [e2] at h1
    cases h1
    rcases keyIs_shape (show keyIs c u = true from hi) with ⟨i0, t0, rfl, rfl⟩ | ⟨x0, t0, rfl, rfl⟩
    · exact ⟨t0, rfl⟩
    · exact ⟨t0, rfl⟩
  refine ⟨.ref h'.objs.size, upd H h'.objs.size (.tup (kvs.map fun kv => kV kv.1)), I1.laid (t' := tk) (fun b o e => Heap.get?_push_of_some _ e) (Nat.le_refl _) ?_, rfl, q _ (I1.hok.fresh (Nat.le_refl _))⟩
  refine (show ObjOk X.prog X.w _ _ _ (.tup (kvs.map fun kv => kV kv.1)) from ⟨by rw [List.length_map]; exact z, acc.toList, rv, ?_⟩)
  rw [Array.toArray_toList]
  exact IsTup.new _ _
end Inf
end
section
set_option maxHeartbeats 4000000
/-! Rules whose reading names the frame's written part, told for a block: the reading must not name the block. -/
namespace Inf
open PySem PySem.Spec PyProof.Rows L2
section
variable {X : Cx} (K : PySem.W.Frag) (h : X.K = K := by rfl)
include h
theorem ixTup : IxR X (rIxT K) := by subst h; exact ix_tup
theorem ixList : IxR X (rIxL K) := by subst h; exact ix_list
theorem opIn : OpR X (compareOp .In) (rIn K false) := by subst h; exact op_in_seq
theorem opNotIn : OpR X (compareOp .NotIn) (rIn K true) := by subst h; exact op_notIn_seq
theorem slList : SlR X (rSlL K) := by subst h; exact sl_list
theorem callLen : CallR X (.builtin "len") (fun xs H Q => ∃ p ys, xs = [.ref p] ∧ (SqL K H p ys ∨ SqT K H p ys) ∧ Q (.int ys.length) H) := by subst h; exact call_len_seq
theorem callList : CallR X (.type "list") (fun xs H Q => ∃ p ys, xs = [.ref p] ∧ (SqL K H p ys ∨ SqT K H p ys) ∧ ∀ l, H l = none → Q (.ref l) (upd H l (.lst ys))) := by subst h; exact call_list_of
end
section
variable {X : Cx}
theorem opEqD (K : PySem.W.Frag) (hu : X.A.units + 64 < cLine) (h : X.K = K := by rfl) : OpR X (compareOp .Eq) (rEqD K) := by subst h; exact op_eqD hu
theorem opNeD (K : PySem.W.Frag) (hu : X.A.units + 64 < cLine) (h : X.K = K := by rfl) : OpR X (compareOp .NotEq) (rNeD K) := by subst h; exact op_neD hu
theorem piList (K : PySem.W.Frag) {tg l : Expr} {tl : TE} (hl : PE X l tl) (h : X.K = K := by rfl) : PI X tg l (iList K tl) := by subst h; exact pi_list hl
theorem piTup (K : PySem.W.Frag) {tg l : Expr} {tl : TE} (hl : PE X l tl) (h : X.K = K := by rfl) : PI X tg l (iTup K tl) := by subst h; exact pi_tup hl
theorem pgTup (K : PySem.W.Frag) {pos : Pos} {es : List Expr} {k : Nat} {t : TGs} {n : Nat} (hc : X.calm = true) (hp : PGs X es t)
    (hn : (assignEach es X.env).length = n := by rfl) (hst : (assignEach es X.env).findIdx? (·.1) = none := by rfl) (h : X.K = K := by rfl) : PG X (.Tuple es k pos) (gTup K n t) := by subst h; exact pg_tup hc hp hn hst
theorem peCount (K : PySem.W.Frag) {o e : Expr} {es : List Expr} {to : TE} {t : TA} {apos cpos : Pos} (ho : PE X o to) (ha : PA X (e :: es) t)
    (hbase : attributeBase o "count" X.env (eval o X.env) = eval o X.env := by rfl)
    (hfew : ((backTo cpos (starEach (e :: es) X.env)).all (fun x => !x.1) && (backToKw cpos (keywordEach [] X.env)).all (fun x => x.1.isSome)
      && decide ((e :: es).length + ([] : List Keyword).length + (if ([] : List Keyword).isEmpty then 0 else 1) < 30)) = true := by rfl)
    (hline : (apos.endLine == cpos.line) = true := by rfl) (hs : starEach (e :: es) X.env = (false, eval e X.env) :: starEach es X.env := by rfl) (hplain : (backTo cpos (starEach es X.env)).any (·.1) = false := by rfl) (hK : X.K = K := by rfl) :
    PE X (.Call (.Attribute o "count" apos) (e :: es) [] cpos) (tBM K "list" (rCntI K) to t) := by
  subst hK
  exact pe_bm PySem.F.plainAttrs_list PySem.F.slot_list_count PySem.F.type_list_count mt_lcount ho ha hbase hfew hline hs hplain
/-- set(xs) of a list or tuple of ints -/
def rSetA (K : PySem.W.Frag) (w : World) : List V → Hp → VK → Prop := fun xs H Q => ∃ (l : Addr) (ns : List Int), xs = [.ref l] ∧ (SqL K H l (ns.map V.int) ∨ SqT K H l (ns.map V.int)) ∧ ns.length ≤ 1000 ∧
  ∀ (p : Addr) (c : Nat), H p = none → c ≤ ns.length → Q (.ref p) (upd H p (SetO w p (fun j => decide (j ∈ ns)) c))
theorem call_set_seq (hc : X.calm = true) : CallR X (.type "set") (rSetA X.K X.w) := by
  intro pins s σ H xs us Q I r h
  obtain ⟨l, ns, rfl, hl, hz, q⟩ := h
  rcases hl with hl | hl
  · exact call_set_of hc pins s σ H _ us Q I r ⟨l, ns, rfl, hl, hz, q⟩
  · obtain ⟨u, rfl, ru⟩ := vals1 r
    obtain rfl : u = Value.ref l := ru
    obtain ⟨its, rv, pl, _⟩ := I.tuple hl
    refine call_set_tupI ns (I.ok.hd hc) pl (by simpa using Vals.ints rv) (by unfold scanBound; omega) fun h' tk c R hc k => ?_
    exact ⟨.ref _, upd H s.heap.objs.size (SetO X.w s.heap.objs.size (fun j => decide (j ∈ ns)) c), I.laid (t' := tk) k (Nat.le_refl _) (setO_new R), rfl, q _ c (I.hok.fresh (Nat.le_refl _)) hc⟩
end
/-- a walk by an invariant, whatever a turn does -/
theorem walk_by {J : It} {n : Nat} {G : Hp → Prop} {Y : Nat → Hp → V → Hp → Prop} (w : Walk J n G Y) {H0 : Hp} {Z : Hp → Prop} {S : (Hp → Prop) → V → Hp → Prop} (Pv : Nat → Hp → Prop) (h0 : Pv 0 H0) (hG : ∀ i H, i ≤ n → Pv i H → G H)
    (hs : ∀ i x H H', i < n → Pv i H → Y i H x H' → S (Pv (i + 1)) x H') (hd : ∀ H, Pv n H → Z H) :
    ∃ W : Nat → Nat → Hp → Prop, (∃ m, W 0 m H0) ∧ ∀ i m H, W i m H → (J.stop i H ∧ Z H) ∨ (J.go i H ∧ ∃ Nx : Hp → Prop, (∀ H', Nx H' → ∃ m', m' < m ∧ W (i + 1) m' H') ∧ ∀ x H', J.yld i H x H' → S Nx x H') := by
  refine ⟨fun i m H => m = n - i ∧ i ≤ n ∧ Pv i H, ⟨n, by simp, Nat.zero_le _, h0⟩, ?_⟩
  rintro i m H ⟨rfl, hi, p⟩
  by_cases hlt : i < n
  · exact .inr ⟨w.goes i H hlt (hG i H hi p), Pv (i + 1), fun H' p' => ⟨n - (i + 1), by omega, rfl, hlt, p'⟩, fun x H' y => hs i x H H' hlt p (w.yields i H x H' hlt (hG i H hi p) y)⟩
  · have e : i = n := by omega
    subst e
    exact .inl ⟨w.stops H (hG _ H (Nat.le_refl _) p), hd H p⟩
end Inf
end
section
set_option maxHeartbeats 4000000
/-! Two except clauses that name the error; isinstance of an error that has a dict; calls of defs that raise, by a bundle. -/
namespace Inf
open PySem PySem.Spec PyProof.Rows L2
/-- behind the suite the name is gone -/
def outEnds (D : Ends) (i : Nat) : Ends := { nx := fun s h => D.nx (s.set i none) h, rt := D.rt, bk := fun s h => D.bk (s.set i none) h, ct := fun s h => D.ct (s.set i none) h }
/-- the clauses take whatever comes -/
def wAs2 (K : PySem.W.Frag) (c1 c2 : Value) (i : Nat) (t1 t2 : Addr → Value → Option Addr → TS) (D : Ends) : WX := fun cls d σ H =>
  (PySem.W.exmOne K cls c1 = some true ∧ ∀ a, H a = none → t1 a cls d (outEnds D i) (σ.set i (some (.ref a))) H) ∨
    (PySem.W.exmOne K cls c1 = some false ∧ PySem.W.exmOne K cls c2 = some true ∧ ∀ a, H a = none → t2 a cls d (outEnds D i) (σ.set i (some (.ref a))) H)
section
variable {X : Cx} {n : Str} {i : Nat} {body : List Stmt} {tb : WX → TS}
/-- a clause whose class is named -/
structure Cl (X : Cx) (n : Str) (i : Nat) (x : Str) (c : Value) (suite : List Stmt) (ts : Addr → Value → Option Addr → TS) : Prop where
  nm : Names X x c
  su : ∀ (a : Addr) (oe : Obj) (cls : Value) (d : Option Addr) (pn : List (Addr × Obj)), L2N.Zn cls d oe → (∃ vs, oe.data = .fields vs) → PSs (X.suite a ((a, oe) :: pn)) suite (ts a cls d)
/-- the error's name in the test -/
theorem name_test {x : Str} {c : Value} {np : Pos} {a : Addr} {oe : Obj} {pn pins : List (Addr × Obj)} {σ : L2.St} {H : Hp} {s : Shared} {Q E : Value → Shared → Prop} (N : Names X x c) (S : Inv (X.suite a ((a, oe) :: pn)) pins σ H s) (q : Q c s) :
    wpAny (model X.prog X.w) (X.A.mark (some (.ref a))) (eval (.Name x np) X.env) Q E s := by
  obtain ⟨g, db, m | ⟨m, v, nn⟩⟩ := N
  · exact ld_glob (X := X.suite a ((a, oe) :: pn)) S g m q db
  · exact ld_blt (X := X.suite a ((a, oe) :: pn)) S g m v q nn db
theorem ps_try_as2 {x1 x2 : Str} {c1 c2 : Value} {b1 b2 : Stmt} {su1 su2 : List Stmt} {t1 t2 : Addr → Value → Option Addr → TS} {np1 np2 q1 q2 pos : Pos} (hs : X.stack = X.env :: X.outer) (hf : X.env.frame = some X.env.locals) (hN : X.N.Nodup) (hi : X.N[i]? = some n) (hln : X.env.kindOf n = some .local)
    (hb : ∀ (W : WX) (pn : List (Addr × Obj)) (xe : Value → Shared → Prop), L2N.Takes (X.tr pn xe) W → PassesOwn (model X.prog X.w) X.A X.env xe → PSs (X.tr pn xe) body (tb W)) (C1 : Cl X n i x1 c1 (b1 :: su1) t1) (C2 : Cl X n i x2 c2 (b2 :: su2) t2) :
    PS X (.Try body [.ExceptHandler (some (.Name x1 np1)) (some n) (b1 :: su1) q1, .ExceptHandler (some (.Name x2 np2)) (some n) (b2 :: su2) q2] [] [] pos) (fun D σ H => tb (wAs2 X.K c1 c2 i t1 t2 D) D σ H) := by
  refine ⟨fun pins s σ H D I h => ?_⟩
  have ok := I.ok
  have frm : X.A.frames = some (X.env :: X.outer) := ok.frames.trans (congrArg some hs)
  refine wpAny_Try_except ?_
  let HS : List ExceptHandler := [.ExceptHandler (some (.Name x1 np1)) (some n) (b1 :: su1) q1, .ExceptHandler (some (.Name x2 np2)) (some n) (b2 :: su2) q2]
  have run := (hb (wAs2 X.K c1 c2 i t1 t2 D) (X.pn ++ pins) (fun e sa => wpAny (model X.prog X.w) X.A (noteFrame e X.env) (fun _ sb => wpAny (model X.prog X.w) X.A (setFlight e none) (fun _ sc => wpAny (model X.prog X.w) X.A (handleBy e X.env HS) (SP X pins D) X.xe sc) X.xe sb) X.xe sa) (fun u s' xx => ?_) PassesOwn.looking).run [] s σ H D (I.toTry _) h
  · refine wpAny_mono run (fun f sa z => ?_) fun _ _ z => z
    cases f with
    | next => exact let ⟨σa, Ha, Ja, qa⟩ := z; wpAny_execs_nil ⟨σa, Ha, Ja.ofTry ok, qa⟩
    | brk => exact let ⟨σa, Ha, Ja, qa⟩ := z; ⟨σa, Ha, Ja.ofTry ok, qa⟩
    | cont => exact let ⟨σa, Ha, Ja, qa⟩ := z; ⟨σa, Ha, Ja.ofTry ok, qa⟩
    | ret u => exact let ⟨va, σa, Ha, Ja, ra, qa⟩ := z; ⟨va, σa, Ha, Ja.ofTry ok, ra, qa⟩
  · obtain ⟨a, B, sI, ip, σ', H', cls, d, rfl, JT, nb, up, sky, na, os, ag, want⟩ := xx
    have J : Inv X pins σ' H' sI := JT.ofTry ok
    rw [show (X.tr (X.pn ++ pins) _).stack = X.env :: X.outer from hs] at sky
    show wpAny (model X.prog X.w) X.A (noteFrame (.ref a) X.env) _ _ _
    refine L2N.Sky.land L2N.Zn.steady frm hf sky fun ha fa ua => ?_
    have Ja : Inv X pins σ' H' { s' with heap := ha } := J.landed nb fa.1 (up.trans ua) os ag
    obtain ⟨oa, va, ea, za, da⟩ := fa.there
    have away : a ∉ frs (X.env :: X.outer) := fun m => by
      obtain ⟨_, o, e, no⟩ := fa.2.2.1.mem m
      rw [ea] at e
      cases e
      exact no _ da
    have nL : a ≠ X.env.locals := fun e => away (List.mem_filterMap.mpr ⟨X.env, List.mem_cons_self, hf.trans (congrArg some e.symm)⟩)
    have nF : a ∉ X.fs := fun m => by
      obtain ⟨e, he, q⟩ := List.mem_filterMap.mp m
      exact away (List.mem_filterMap.mpr ⟨e, List.mem_cons_of_mem _ he, q⟩)
    have Sa := Ja.suite ea da na nL nF
    have LT : PySem.W.Looks (model X.prog X.w) ha (typeOf (.ref a)) cls := fun _ _ _ _ k q => wpAny_typeOf_ref (k _ _ ea) (by rw [za.1]; exact q)
    -- a clause that takes the error
    have take : ∀ {x : Str} {c : Value} {b : Stmt} {su : List Stmt} {ts : Addr → Value → Option Addr → TS} {np q : Pos} {more : List ExceptHandler}, Cl X n i x c (b :: su) ts → PySem.W.exmOne X.K cls c = some true → (∀ a, H' a = none → ts a cls d (outEnds D i) (σ'.set i (some (.ref a))) H') →
        wpAny (model X.prog X.w) X.A (handleBy (.ref a) X.env (.ExceptHandler (some (.Name x np)) (some n) (b :: su) q :: more)) (SP X pins D) X.xe { s' with heap := ha } := by
      intro x c b su ts np q more C e1 w
      refine wpAny_handleBy_cons (codeAny_handlers_test ?_) (by intro q; cases q)
      refine name_test C.nm Sa ((PySem.W.exm_one (M := model X.prog X.w) Ja.kIn LT e1).here ?_)
      refine codeAny_handlers_suite_as ?_
      refine HandSPX.lands_againZ fa fun hc fc uc => ?_
      have Jc : Inv X pins σ' H' { s' with heap := hc } := J.landed nb fc.1 ((up.trans ua).trans uc) os ag
      obtain ⟨oc, vc, ec, zc, dc⟩ := fc.there
      have Sc := Jc.suite ec dc na nL nF
      refine store_ok (X := X.suite a ((a, oc) :: (X.pn ++ pins))) (v := .ref a) Sc hN hi (.inl hln) rfl (fun sd Sd => ?_) (.inr hln)
      refine wpAny_mono ((C.su a oc cls d (X.pn ++ pins) zc ⟨_, dc⟩).run [] sd _ H' _ Sd (w a na)) (fun f se z => ?_) fun _ _ z => z.elim
      have gone : ∀ {σe : L2.St} {He : Hp} {Q : Shared → Prop}, Inv (X.suite a ((a, oc) :: (X.pn ++ pins))) [] σe He se → (∀ sf, Inv X pins (σe.set i none) He sf → Q sf) → wpAny (model X.prog X.w) X.A (do bindName X.env n .none; unbindBehindTheSuite X.env n q) (fun _ sf => Q sf) X.xe se :=
        fun {σe He Q} Se hq => gone_ok (Se.unsuite ok) hN hi hln hq
      cases f with
      | next => exact let ⟨σe, He, Se, qe⟩ := z; gone Se fun sf Jf => ⟨_, _, Jf, qe⟩
      | brk => exact let ⟨σe, He, Se, qe⟩ := z; gone Se fun sf Jf => ⟨_, _, Jf, qe⟩
      | cont => exact let ⟨σe, He, Se, qe⟩ := z; gone Se fun sf Jf => ⟨_, _, Jf, qe⟩
      | ret u => exact let ⟨ve, σe, He, Se, re, qe⟩ := z; gone Se fun sf Jf => ⟨_, _, _, Jf, re, qe⟩
    rcases want with ⟨e1, w⟩ | ⟨e1, e2, w⟩
    · exact take C1 e1 w
    · refine wpAny_handleBy_cons (codeAny_handlers_test ?_) (by intro q; cases q)
      refine name_test C1.nm Sa ((PySem.W.exm_one (M := model X.prog X.w) Ja.kIn LT e1).here ?_)
      exact take C2 e2 w
end
/-! ### isinstance(e, C) of a caught error with a dict -/
structure ErrC (K : PySem.W.Frag) (D : Addr) : Prop where
  ec : ExcC K D
  cl : (PySem.W.clsIn K D).isSome = true
def rIsX (K : PySem.W.Frag) (a : Addr) (cls : Value) (d : Option Addr) (D : Addr) : List V → Hp → VK → Prop := fun xs H Q => ∃ (c : V) (cv : Value) (b : Bool) (dd : Addr) (fs : List (Str × V)), xs = [.ref a, c] ∧ (∀ u, RelV c u → u = cv) ∧ cls = .ref D ∧ d = some dd ∧ H dd = some (.xd fs) ∧ PySem.W.kitOne K (.ref D) cv = some b ∧ Q (.bl b) H
theorem call_isX {X : Cx} {a D : Addr} {oe : Obj} {cls : Value} {d : Option Addr} {pn : List (Addr × Obj)} (C : ErrC X.K D) (hz : Zc cls d oe) (hf : ∃ vs, oe.data = .fields vs) : CallR (X.suite a ((a, oe) :: pn)) (.builtin "isinstance") (rIsX X.K a cls d D) := by
  intro pins s σ H xs us Q I r h
  obtain ⟨c, cv, b, dd, fs, rfl, hcv, ec, ed, hdd, e, q⟩ := h
  obtain ⟨u1, u2, rfl, r1, r2⟩ := vals2 r
  cases (show u1 = Value.ref a from r1)
  obtain rfl := hcv _ r2
  subst ec ed
  obtain ⟨ha, _⟩ := I.pin (a, oe) (List.mem_append_left _ List.mem_cons_self)
  obtain ⟨vs, hd⟩ := hf
  obtain ⟨mA, hns, _⟩ := (show ObjOk X.prog X.w H s.heap dd (.xd fs) from I.hok dd _ hdd)
  obtain ⟨od, ho, _⟩ := lookIn_ns hns
  have J : PySem.W.InstAt s.heap a oe D (some od) := ⟨ha, hz.1, by unfold PySem.W.notCls; rw [hd] <;> rfl, by rw [hz.2]; exact ho⟩
  exact PySem.W.kia_one (PySem.W.kitx_exc C.cl C.ec.hg C.ec.hk C.ec.hs C.ec.ha C.ec.hn C.ec.ht C.ec.hm) I.kIn J e (fun z => nomatch z) fun tk => ⟨.bl b, H, I.kept (t' := tk) fun _ _ z => z, rfl, q⟩
/-! ### a def that raises, called where it is caught -/
theorem pe_cS {X : Cx} {k j : Nat} {x : Str} {sp : Sp} {W : WX} {e : Expr} {es : List Expr} {t : TA} {p pos : Pos} (G : Has X.prog X.w X.K X.mg X.base (L2N.CX X.prog X.w) j x sp) (hr : Room k X.A) (tk : L2N.Takes X W) (ha : PA X (e :: es) t) (hjk : j ≤ k := by decide) (hg : Gl X x := by rfl)
    (hdb : (x == ("__debug__" : Str)) = false := by decide) (he : starEach (e :: es) X.env = (false, eval e X.env) :: starEach es X.env := by rfl) (hpl : (backTo pos (starEach es X.env)).any (·.1) = false := by rfl) :
    PE X (.Call (.Name x p) (e :: es) [] pos) (tCallSD sp [] (fun σ cls d H => W cls d σ H) t) := by
  obtain ⟨f, fd, ps, hm, F, b, kp⟩ := G.ex
  exact pe_callSD F (hr.mono hjk) hg hm kp b .nil (fun σ _ _ _ e s' I c => tk e s' (L2N.XE.of_call I (fun _ _ _ h => h) c)) ha hdb he hpl
theorem takesNo {X : Cx} : L2N.Takes X (fun _ _ _ _ => False) := fun _ _ ⟨_, _, _, _, _, _, _, _, _, _, _, _, _, _, _, _, w⟩ => w.elim
/-! ### an own exception made where nothing is handled: its context is None -/
theorem pmk_oexN {X : Cx} {CX : CXT} {x : Str} {C fI : Addr} {k : Nat} {fd : FuncData} {ps : List Str} {sp : Sp} {e : Expr} {es : List Expr} {ta : TA} {p pos : Pos} (T : OexC X.K C) (iC : PySem.W.findIn X.K (.ref C) "__init__" = some (some (.ref fI))) (tI : PySem.W.typeIn X.K (.ref fI) = some (.type "function"))
    (F1 : FnOk X.prog X.w X.K X.mg X.base CX k fI fd ps sp) (hr : Room (k + 1) X.A) (hb : Binds X.K fd ps []) (hx : Passes CX X (fun _ _ _ => False)) (hg : Gl X x) (hm : X.mg x = some (.ref C)) (ha : PA X (e :: es) ta)
    (hdb : (x == ("__debug__" : Str)) = false := by decide) (he : starEach (e :: es) X.env = (false, eval e X.env) :: starEach es X.env := by rfl) (hpl : (backTo pos (starEach es X.env)).any (·.1) = false := by rfl) :
    L2N.PMk X (.Call (.Name x p) (e :: es) [] pos) (tMkO C sp [] ta) := by
  intro pins s σ H Q I h
  obtain ⟨nm, q, N, bs, bm, sn, sub, ab, col, dd, k0, k1, k2, k3, k5, hC, hbm⟩ := T.cls
  refine wpAny_Call_Name_kw (ld_glob I hg hm ?_ hdb)
  refine PySem.W.callWith_K (h₀ := X.base) I.ok.mod.kin T.kC (thn (ha.run pos pins s σ H _ I h) fun us sa ⟨vs, Ha, Ia, ra, zl, qa⟩ => ⟨Ia.kIn, ?_⟩) he hpl
  show wpAny _ _ (call (.ref C) us) _ _ _
  obtain ⟨hp, g, dr, tk, os⟩ := sa
  have up1 : hp.objs.size ≤ hp.objs.size + 1 := Nat.le_succ _
  have na : Ha (hp.objs.size + 1) = none := Ia.hok.fresh up1
  have want := qa (hp.objs.size + 1) na
  have keep : ∀ b o, hp.get? b = some o → ((hp.push (PySem.W.kdv_tup us)).push (PySem.HandSPX.excO C hp.objs.size)).get? b = some o := fun b o z => Heap.get?_push_of_some _ (Heap.get?_push_of_some _ z)
  have made : ((hp.push (PySem.W.kdv_tup us)).push (PySem.HandSPX.excO C hp.objs.size)).get? (hp.objs.size + 1) = some (PySem.HandSPX.excO C hp.objs.size) := by heap_get
  have Ib : Inv X pins σ (upd Ha (hp.objs.size + 1) (exo (hp.objs.size + 1) C none)) ⟨(hp.push (PySem.W.kdv_tup us)).push (PySem.HandSPX.excO C hp.objs.size), g, dr, tk, os⟩ := Ia.laid (t' := tk) (a := hp.objs.size + 1) (o := exo (hp.objs.size + 1) C none) keep up1 (exo_ok made)
  have rb : Vals (V.ref (hp.objs.size + 1) :: (vs ++ [])) (Value.ref (hp.objs.size + 1) :: (us ++ [])) := .cons rfl (ra.append .nil)
  have len : (Value.ref (hp.objs.size + 1) :: us ++ []).length = ps.length := by
    rw [← F1.len _ _ _ _ want]
    exact rb.length.symm
  have room : us.length ≤ sizeLine := by
    rw [← Paired.length ra]
    exact sz (by omega)
  refine wpAny_call (PySem.HandSPX.call_own F.excBase_ValueError (fun Y => PySem.HandSPX.refsVE_contains Y bm hbm) (Ia.kIn _ _ hC) (PySem.W.looks_findIn Ia.kIn iC) (fun self => PySem.W.bind_fn Ia.kIn self tI) room
    (codeAny_mono (F1.run _ X.stack _ _ ⟨Value.ref (hp.objs.size + 1) :: us, []⟩ (Value.ref (hp.objs.size + 1) :: (us ++ [])) _ _ (fun _ _ _ => False) (hr.make C us []) (Ib.env0.make C us []) (by have z := hb _ (Value.ref (hp.objs.size + 1) :: us) Ib.kIn len; rw [List.cons_append] at z; exact z) rb want) fun r s' z => ?_))
  rcases r with er | (_ | _ | _ | u)
  · exact hx pins σ _ _ er s' Ib z
  · exact False.elim z
  · exact False.elim z
  · exact False.elim z
  · obtain ⟨v, Hc, osc, barec, unc, okc, rv, ev, d, fs, ea, ed, hd1, qc⟩ := z
    subst ev
    obtain ⟨hc, gc, dc, tc, os'⟩ := s'
    obtain ⟨t0, G, J, kG, ge, hoe, nn⟩ := mk_end0 (d2 := dc) (t2 := tc) Ia up1 keep unc okc osc barec ea ed hd1
    exact ⟨rv, _, _, _, ⟨G, gc, dc, tc, os'⟩, _, .ref C, some d, rfl, J, kG, ge, hoe, ⟨rfl, rfl, fun vs e => by cases e; rfl⟩, rfl, rfl, nn, rfl, barec, raises_own T.exC T.tyC, qc⟩
/-! ### a list walked while an error is handled -/
section
variable {prog : Program} {w : World} {A : Around} {E : Value → Shared → Prop} {s : Shared}
theorem list_end_hot {it l x1 : Addr} {i : Nat} {items : Array Value} {Q : Option Value → Shared → Prop} (hot : HotX.HotAt A x1 s.heap) (hit : s.heap.IsListIter it l i) (hl : s.heap.IsList l items) (hx : items[i]? = none) (ne : x1 ≠ it)
    (hQ : ∀ h', (∀ b o, b ≠ it → s.heap.get? b = some o → h'.get? b = some o) → Q none { s with heap := h' }) : wpAny (model prog w) A (pyNext (.ref it)) Q E s := by
  obtain ⟨o, ho, hc, hd⟩ := id hit
  obtain ⟨ol, hol, _, nl, hdl⟩ := hl
  obtain ⟨hh, o1, v1, e1, d1, c1⟩ := hot
  unfold pyNext
  refine wpAny_bind (wpAny_attempt (wpAny_callSpecial?_slot (name := Str.ofString "__next__") hit.typeIs slot_listiter_next (wpAny_call_entry slot_listiter_next hit.typeIs entry_listiter_next ?_ (args_listiter_next _))))
  show wpAny _ A.in1 (field (.ref it) 0 >>= _) _ _ s
  refine wpAny_bind (wpAny_field ho hd (x := .ref l) rfl ?_)
  show wpAny _ A.in1 (if (Value.ref l == Value.none) = true then _ else _) _ _ s
  rw [if_neg (show ¬ ((Value.ref l == Value.none) = true) from fun z => by cases z)]
  show wpAny _ A.in1 (field (.ref it) 1 >>= _) _ _ s
  refine wpAny_bind (wpAny_field ho hd (x := .int i 0) rfl ?_)
  show wpAny _ A.in1 (seqItems? (.ref l) >>= _) _ _ s
  refine wpAny_bind (wpAny_seqItems hol hdl ?_)
  simp only [Int.toNat_natCast, hx]
  refine wpAny_bind (wpAny_rule (wpAny_bind (wpAny_setField ho hd (by simp) ?_)))
  show wpAny _ A.in1 (newExc (.type "StopIteration") [] >>= _) _ _ _
  refine wpAny_bind ?_
  simp only [newExc, newTuple]
  refine wpAny_bind (wpAny_newObj_type ?_ (by size_fits))
  refine wpAny_bind (m := firstArgMember _ _) (wpAny_of_eq (a := Value.none) (by first | rfl | (simp only [firstArgMember]; rfl)) ?_)
  refine wpAny_newObj_type ?_ (by size_fits)
  have keep : ∀ {b : Addr} {u : Obj} {p q : Obj} {f : Obj → Obj}, b ≠ it → s.heap.get? b = some u → (((s.heap.update it f).push p).push q).get? b = some u := fun {b u p q f} n z => by
    refine Heap.get?_push_of_some _ (Heap.get?_push_of_some _ ?_)
    rw [Heap.get?_update_other _ _ n.symm]
    exact z
  refine HotX.raiseNew_hot ⟨hh, o1, v1, keep ne e1, d1, c1⟩ (Nat.ne_of_lt (Heap.lt_size (Heap.get?_push_of_some _ (by rw [Heap.get?_update_other _ _ ne.symm]; exact e1)))) (Heap.get?_push_size _ rfl) rfl (by first | (simp; done) | (simp; omega) | (simp only [Array.size_append]; simp; omega)) ?_
  refine wpAny_bind (wpAny_isInstance (T := "StopIteration") (b := true) ⟨_, Heap.get?_update_self _ (Heap.get?_push_size _ rfl) rfl, rfl⟩ isSubtype_stop ?_)
  refine wpAny_pure (hQ _ fun b u n z => ?_)
  have lt : b < ((s.heap.update it (Obj.mapFields (·.setIfInBounds 0 .none))).push { cls := .type "tuple", data := .seq ([] : List Value).toArray }).objs.size := Heap.lt_size (Heap.get?_push_of_some _ (by rw [Heap.get?_update_other _ _ n.symm]; exact z))
  rw [Heap.get?_update_other _ _ (Nat.ne_of_gt lt)]
  exact keep n z
end
theorem turn_listH {P : Program} {w : World} {K : PySem.W.Frag} {tg : Expr} (a it : Addr) : L2H.TurnH P w K tg (Itl K a) [it] it (fun i h => h.IsListIter it a i) := by
  have T := turn_list (P := P) (w := w) (K := K) (tg := tg) a it
  refine ⟨T.mem, T.obj, T.keep, ?_, ?_, T.self⟩
  · intro X hP hw hK hc i pins s σ H E I hf st hg
    subst hP hw hK
    obtain ⟨xs, x, hq, hx⟩ := hg
    obtain ⟨its, rv, p, hz⟩ := I.list hq
    obtain ⟨u, hu, ru⟩ := rv.get hx
    obtain ⟨f0, f1, f2, f3, f4, f5⟩ := hf it (by simp)
    refine wpAny_pyNext_list_item st p.isList (x := u) (by simpa using hu) fun h' st' sb => ?_
    have I1 : Inv X pins σ H { s with heap := h' } := I.turned (t' := s.toks) (fun b o hb e => (sb.2 b hb).trans e) f0 f1 f3 f4 f5
    obtain ⟨o, e, c, d⟩ := id st'
    exact ⟨u, rfl, go_of (s := { s with heap := h' }) e c d (by decide) ⟨x, H, I1, ru, ⟨rfl, fun ys hy => by rw [I.list_inj hy hq]; exact hx⟩, st', fun b hb => (hf b hb).1⟩⟩
  · intro X hP hw hK hc i pins s σ H E I hf st hg
    subst hP hw hK
    obtain ⟨xs, hq, hx⟩ := hg
    obtain ⟨its, rv, p, hz⟩ := I.list hq
    obtain ⟨f0, f1, f2, f3, f4, f5⟩ := hf it (by simp)
    obtain ⟨pp, ⟨hh, v1, ed, c1⟩, hp⟩ := hc
    have hl := rv.length
    have hne : pp.1 ≠ it := f5 pp (List.mem_append_left _ hp)
    exact list_end_hot (x1 := pp.1) ⟨hh, pp.2, v1, (I.pin pp (List.mem_append_left _ hp)).1, ed, c1⟩ st p.isList (by simp; omega) hne fun h' eb => ⟨rfl, I.turned (t' := s.toks) (fun b o hb e => eb b o hb e) f0 f1 f3 f4 f5⟩
theorem pi_listH {X : Cx} {tg l : Expr} {tl : TE} (hl : PE X l tl) : L2H.PIH X tg l (iList X.K tl) := by
  refine ⟨fun pins s σ H R I h => ?_⟩
  refine thn (hl.run pins s σ H _ I h) fun v s1 ⟨x, H1, I1, r1, a, e, ⟨xs, hq⟩, q⟩ => ?_
  subst e
  cases r1
  obtain ⟨its, rv, p, hz⟩ := I1.list hq
  refine wpAny_pyIter_list p.isList ?_
  have I2 : Inv X pins σ H1 { s1 with heap := s1.heap.push { cls := .type "list_iterator", data := .fields #[.ref a, .int 0 0] } } := I1.kept (t' := s1.toks) fun b o e => Heap.get?_push_of_some _ e
  refine ⟨s1.heap.objs.size, [s1.heap.objs.size], _, _, H1, rfl, I2, turn_listH a s1.heap.objs.size, ⟨_, Heap.get?_push_size _ rfl, rfl, rfl⟩, fun b hb => ?_, q⟩
  obtain rfl : b = s1.heap.objs.size := by simpa using hb
  exact I1.fpOk (Nat.le_refl _) (I1.hok.fresh (Nat.le_refl _))
/-! ### a def of the module, called while an error is handled -/
structure HasH (P : Program) (w : World) (K : PySem.W.Frag) (mg : Str → Option Value) (base : Heap) (k : Nat) (x : Str) (sp : Sp) : Prop where
  ex : ∃ (f : Addr) (fd : FuncData) (ps : List Str), mg x = some (.ref f) ∧ L2H.FnH P w K mg base CX0 k f fd ps sp ∧ Binds K fd ps [] ∧ PySem.W.keepIn K (.ref f) = true
theorem hotSuite {X : Cx} {a : Addr} {oe : Obj} {cls : Value} {d : Option Addr} {pn : List (Addr × Obj)} (hz : L2N.Zn cls d oe) (hf : ∃ vs, oe.data = .fields vs) : L2H.HotC (X.suite a ((a, oe) :: pn)) :=
  let ⟨vs, e⟩ := hf
  ⟨(a, oe), ⟨rfl, vs, e, hz.2.2 vs e⟩, List.mem_cons_self⟩
theorem pe_cH {X : Cx} {k j : Nat} {x : Str} {sp : Sp} {e : Expr} {es : List Expr} {t : TA} {p pos : Pos} {a : Addr} {oe : Obj} {cls : Value} {d : Option Addr} {pn : List (Addr × Obj)} (G : HasH X.prog X.w X.K X.mg X.base j x sp) (hr : Room k X.A) (hz : L2N.Zn cls d oe) (hf : ∃ vs, oe.data = .fields vs) (ha : PA (X.suite a ((a, oe) :: pn)) (e :: es) t)
    (hjk : j ≤ k := by decide) (hg : Gl (X.suite a ((a, oe) :: pn)) x := by rfl) (hdb : (x == ("__debug__" : Str)) = false := by decide) (he : starEach (e :: es) X.env = (false, eval e X.env) :: starEach es X.env := by rfl) (hpl : (backTo pos (starEach es X.env)).any (·.1) = false := by rfl) :
    PE (X.suite a ((a, oe) :: pn)) (.Call (.Name x p) (e :: es) [] pos) (tCallS sp (fun _ => E0) t) := by
  obtain ⟨f, fd, ps, hm, F, b, kp⟩ := G.ex
  have r := hr.mono hjk
  exact L2H.pe_callH (X := X.suite a ((a, oe) :: pn)) F ⟨r.dp, r.un⟩ (hotSuite hz hf) hg hm kp b (fun _ _ _ _ _ _ _ c => c.elim) ha hdb he hpl
end Inf
end
section
set_option maxHeartbeats 4000000
/-! The head's facts: a Hook whose start list also has the statics, own exceptions, inits that close over their class. -/
namespace Inf
open PySem PySem.Spec PyProof.Rows L2 He
/-! ### own exceptions -/
def oexCls (K : PySem.W.Frag) (C : Addr) : Bool := match K.lookup C with
  | some ⟨.type t, _, .cls cd, sl⟩ => (match cd.mro, sl.toList with
    | .ref C' :: bm, [_, _, _, _, some (.builtin n), _] => t == "type" && (C' == C && (n == "ValueError.__new__" && (!cd.hasDel && (cd.hasDict && PySem.HandSPX.refsVE bm))))
    | _, _ => false)
  | _ => false
def oexB (K : PySem.W.Frag) (C : Addr) : Bool := oexCls K C && (eqO (PySem.W.findIn K (.ref C) "__setattr__") (some (some (.builtin "object.__setattr__"))) && (decide (PySem.W.subIn K (.ref C) (.type "BaseException") = some true) &&
  (decide (PySem.W.typeIn K (.ref C) = some (.type "type")) && PySem.W.keepIn K (.ref C))))
theorem oexB_ok {K : PySem.W.Frag} {C : Addr} (h : oexB K C = true) : OexC K C := by
  obtain ⟨c1, h⟩ := ba h
  obtain ⟨c2, h⟩ := ba h
  obtain ⟨c3, h⟩ := ba h
  obtain ⟨c4, c5⟩ := ba h
  refine ⟨?_, eqO_ok c2, of_decide_eq_true c3, of_decide_eq_true c4, c5⟩
  unfold oexCls at c1
  split at c1
  · rename_i t dd cd sl ho
    split at c1
    · rename_i C' bm k0 k1 k2 k3 n k5 hm hs
      simp only [Bool.and_eq_true, beq_iff_eq, Bool.not_eq_true'] at c1
      obtain ⟨rfl, rfl, rfl, hdel, hdc, ht⟩ := c1
      obtain ⟨nm, bs, mro, ns, qn, hd, sn, sub, ab, col, del⟩ := cd
      dsimp only at hm hdel hdc
      subst hm hdel hdc
      have hsl : sl = #[k0, k1, k2, k3, some (.builtin "ValueError.__new__"), k5] := by
        obtain ⟨l⟩ := sl
        simp only at hs
        rw [hs]
      subst hsl
      exact ⟨nm, qn, ns, bs, bm, sn, sub, ab, col, dd, k0, k1, k2, k3, k5, ho, ht⟩
    · cases c1
  · cases c1
/-! ### a caught error -/
def errB (K : PySem.W.Frag) (D : Addr) : Bool := eqO (PySem.W.findIn K (.ref D) "__getattribute__") (some (some (.builtin "BaseException.__getattribute__"))) && (eqO (PySem.W.findIn K (.ref D) "__getattr__") (some none) && (decide (PySem.W.subIn K (.ref D) (.type "BaseException") = some true) &&
  (PySem.W.hasDictIn K D && (eqO (PySem.W.findIn K (.ref D) "__class__") (some (some (.builtin "object.__class__"))) && (eqO (PySem.W.specialIn K (.builtin "object.__class__") "__get__") (some (some (.builtin "getset_descriptor.__get__"))) &&
  (decide (PySem.W.takesIn K (.builtin "object.__class__") = some true) && (decide (PySem.W.mroIn K D (.type "object") = some true) && (PySem.W.clsIn K D).isSome)))))))
theorem errB_ok {K : PySem.W.Frag} {D : Addr} (h : errB K D = true) : ErrC K D ∧ XfC K D := by
  obtain ⟨c1, h⟩ := ba h
  obtain ⟨c2, h⟩ := ba h
  obtain ⟨c3, h⟩ := ba h
  obtain ⟨c4, h⟩ := ba h
  obtain ⟨c5, h⟩ := ba h
  obtain ⟨c6, h⟩ := ba h
  obtain ⟨c7, h⟩ := ba h
  obtain ⟨c8, c9⟩ := ba h
  exact ⟨⟨⟨eqO_ok c1, eqO_ok c2, of_decide_eq_true c3, c4, eqO_ok c5, eqO_ok c6, of_decide_eq_true c7, of_decide_eq_true c8⟩, c9⟩, ⟨eqO_ok c1, eqO_ok c2, of_decide_eq_true c3, c4⟩⟩
/-! ### inits that close over their class -/
abbrev FnS : Type := Option (Str × Str × Arguments × FuncBody × Scope × Addr × Addr)
def fnS (K : PySem.W.Frag) (p : Str × Option Str) : FnS := match K.lookup (fAd K p) with
  | some ⟨_, _, .func fd, _⟩ => some (fd.name, fd.qualname, fd.params, fd.body, fd.scope, fd.globals, fd.builtins)
  | _ => none
def DefD.valS (d : DefD) : FnS := some (d.name, d.qual, d.params, .stmts d.body, d.scope, mainGlobals, builtinsNs)
def fileIs (file : Str) (vs : Array Value) : Bool := match (vs[2]? : Option Value) with
  | some (.str fl _) => file == fl
  | _ => false
def supFn (file : Str) (K : PySem.W.Frag) (C f : Addr) (qual : Str) : Bool := match K.lookup f with
  | some ⟨_, _, .func fd, _⟩ => (match fd.closure, fd.code, fd.defaults with
    | [(n, cc)], .ref cda, .none => n == "__class__" && (PySem.W.codeIn K (.ref cda) qual && ((match K.lookup cc with
      | some ⟨_, _, .cell (some (.ref C')), _⟩ => C' == C
      | _ => false) && (match K.lookup cda with
      | some ⟨_, _, .fields vs, _⟩ => fileIs file vs
      | _ => false)))
    | _, _, _ => false)
  | _ => false
/-- where: the class's name, the method's name -/
def supB (file : Str) (K : PySem.W.Frag) (x m : Str) (qual : Str) : Bool := oexB K (ga K x) && (supFn file K (ga K x) (ma K (ga K x) m) qual && (eqO (PySem.W.nsIn K cStatics "thirdparty.any") (some none) && (eqO (PySem.W.ks_superIn K (ga K x) (ga K x) "__init__") (some (some (.builtin "ValueError.__init__"))) &&
  (decide (PySem.W.subIn K (.ref (ga K x)) (.type "ValueError") = some true) && (decide (PySem.W.mroIn K (ga K x) (.ref (ga K x)) = some true) && (eqO (PySem.W.findIn K (.ref (ga K x)) "__init__") (some (some (.ref (ma K (ga K x) m)))) &&
  (decide (PySem.W.typeIn K (.ref (ma K (ga K x) m)) = some (.type "function")) && PySem.W.keepIn K (.ref (ma K (ga K x) m)))))))))
theorem supB_ok {P : Program} {K : PySem.W.Frag} {x m qual : Str} {d : DefD} (hat : d.at_ = (x, some m)) (hq : d.qual = qual) (ht : (P.main.scope.names.lookup ("super" : Str)).isSome = false) (e : fnS K d.at_ = DefD.valS d) (h : supB P.main.file K x m qual = true) :
    SupTxt P K (ga K x) (ma K (ga K x) m) d.name d.qual d.params d.body d.scope := by
  obtain ⟨c1, h⟩ := ba h
  obtain ⟨c2, h⟩ := ba h
  obtain ⟨c3, h⟩ := ba h
  obtain ⟨c4, h⟩ := ba h
  obtain ⟨c5, h⟩ := ba h
  obtain ⟨c6, h⟩ := ba h
  obtain ⟨c7, h⟩ := ba h
  obtain ⟨c8, c9⟩ := ba h
  refine ⟨oexB_ok c1, ?_, ht, eqO_ok c3, eqO_ok c4, of_decide_eq_true c5, of_decide_eq_true c6, eqO_ok c7, of_decide_eq_true c8, c9⟩
  have ea : fAd K d.at_ = ma K (ga K x) m := by rw [hat]; rfl
  unfold fnS at e
  rw [ea] at e
  unfold supFn at c2
  cases q : K.lookup (ma K (ga K x) m) with
  | none =>
    rw [q] at c2
    cases c2
  | some o =>
    obtain ⟨oc, od, dt, osl⟩ := o
    rw [q] at c2 e
    cases dt with
    | func fd =>
      obtain ⟨n1, n2, n3, n4, n5, n6, n7, n8, n9, n10, n11, n12, n13, n14, n15⟩ := fd
      have e2 : (some (n1, n2, n3, n4, n5, n6, n15) : FnS) = some (d.name, d.qual, d.params, .stmts d.body, d.scope, mainGlobals, builtinsNs) := e
      simp only [Option.some.injEq, Prod.mk.injEq] at e2
      obtain ⟨h1, h2, h3, h4, h5, h6, h8⟩ := e2
      subst h1 h2 h3 h4 h5 h6 h8
      dsimp only at c2
      split at c2
      · rename_i n cc cda
        simp only [Bool.and_eq_true, beq_iff_eq] at c2
        obtain ⟨rfl, k1, k2, k3⟩ := c2
        refine ⟨oc, od, _, _, _, _, _, osl, cc, cda, rfl, by rw [hq]; exact k1, ?_, ?_⟩
        · split at k2
          · rename_i hcc
            rw [beq_iff_eq] at k2
            subst k2
            exact ⟨_, _, _, hcc⟩
          · cases k2
        · split at k3
          · rename_i hcd
            unfold fileIs at k3
            split at k3
            · rename_i hv
              exact ⟨_, _, _, _, _, _, hcd, hv, k3⟩
            · cases k3
          · cases k3
      · cases c2
    | _ => cases c2
/-! ### the Hook -/
def asS (g : Addr → Option Obj) : Nat → List Addr
  | 0 => [mainGlobals, cStatics]
  | n + 1 => growD g (asS g n)
abbrev AlS : Type := Bool × List FnW × List FnS
/-- fx: facts of one's own -/
def obsS (fx : List (PySem.W.Frag → Bool)) (fa : List Fa) (fn fs : List DefD) (K : PySem.W.Frag) : AlS := ((fx.all fun f => f K) && ((fa.all fun f => f.ok K) && fn.all fun d => d.ok K), fn.map fun d => fnW K d.at_, fs.map fun d => fnS K d.at_)
def valS (fn fs : List DefD) : AlS := (true, fn.map DefD.val, fs.map DefD.valS)
def SaysS (fx : List (PySem.W.Frag → Bool)) (fa : List Fa) (fn fs : List DefD) (K : PySem.W.Frag) : Prop := obsS fx fa fn fs K = valS fn fs
def obsSG (n : Nat) (fx : List (PySem.W.Frag → Bool)) (fa : List Fa) (fn fs : List DefD) (g : Addr → Option Obj) : AlS := obsS fx fa fn fs (frG g (asS g n))
def hookS (n : Nat) (fx : List (PySem.W.Frag → Bool)) (fa : List Fa) (fn fs : List DefD) : PySem.W.Hook where
  α := AlS
  obs := fun s => obsSG n fx fa fn fs s.heap.get?
  val := fun _ => valS fn fs
  says := fun _ h => ∃ K : PySem.W.Frag, K.In h ∧ SaysS fx fa fn fs K
  of := fun _ _ e => ⟨_, frG_in, e⟩
  keeps := fun _ _ _ ⟨K, hK, c⟩ k => ⟨K, PySem.W.Frag.In.keeps hK k, c⟩
theorem obsSG_eq {n : Nat} {fx : List (PySem.W.Frag → Bool)} {fa : List Fa} {fn fs : List DefD} {g : Addr → Option Obj} {s : Shared} (h : ∀ a, g a = s.heap.get? a) : obsSG n fx fa fn fs g = (hookS n fx fa fn fs).obs s := by
  have e : g = s.heap.get? := funext h
  rw [e] <;> rfl
section
variable {fx : List (PySem.W.Frag → Bool)} {fa : List Fa} {fn fs : List DefD} {K : PySem.W.Frag}
theorem SaysS.own (c : SaysS fx fa fn fs K) (i : Nat) {f : PySem.W.Frag → Bool} (h : fx[i]? = some f := by rfl) : f K = true := by
  have c1 := (ba (show ((fx.all fun f => f K) && ((fa.all fun f => f.ok K) && fn.all fun d => d.ok K)) = true from congrArg (fun z : AlS => z.1) c)).1
  exact List.all_eq_true.mp c1 f (List.mem_of_getElem? h)
theorem SaysS.fact (c : SaysS fx fa fn fs K) (i : Nat) {f : Fa} (h : fa[i]? = some f := by rfl) : f.ok K = true := by
  have c1 := (ba (ba (show ((fx.all fun f => f K) && ((fa.all fun f => f.ok K) && fn.all fun d => d.ok K)) = true from congrArg (fun z : AlS => z.1) c)).2).1
  exact List.all_eq_true.mp c1 f (List.mem_of_getElem? h)
theorem SaysS.def_ (c : SaysS fx fa fn fs K) (i : Nat) {d : DefD} (h : fn[i]? = some d := by rfl) : ∃ fd, FunD K d.name d.qual d.params d.body d.scope (d.dvs K) (d.kws K) (fAd K d.at_) fd := by
  have c2 := (ba (ba (show ((fx.all fun f => f K) && ((fa.all fun f => f.ok K) && fn.all fun d => d.ok K)) = true from congrArg (fun z : AlS => z.1) c)).2).2
  have e : fn.map (fun d => fnW K d.at_) = fn.map DefD.val := congrArg (fun z : AlS => z.2.1) c
  have e2 : (fn.map fun d => fnW K d.at_)[i]? = (fn.map DefD.val)[i]? := by rw [e]
  rw [List.getElem?_map, List.getElem?_map, h] at e2
  exact DefD.funD (Option.some.inj e2) (List.all_eq_true.mp c2 d (List.mem_of_getElem? h))
theorem SaysS.sup (c : SaysS fx fa fn fs K) (i : Nat) {d : DefD} (h : fs[i]? = some d := by rfl) : fnS K d.at_ = DefD.valS d := by
  have e : fs.map (fun d => fnS K d.at_) = fs.map DefD.valS := congrArg (fun z : AlS => z.2.2) c
  have e2 : (fs.map fun d => fnS K d.at_)[i]? = (fs.map DefD.valS)[i]? := by rw [e]
  rw [List.getElem?_map, List.getElem?_map, h] at e2
  exact Option.some.inj e2
end
end Inf
end
section
set_option maxHeartbeats 4000000
namespace K80
open PySem PySem.Spec PyProof.Rows L2
def top (i : Nat) : Stmt := PySem.Challenge.pw_forkedshelves_k80_items_by_two_roads.main.body.getD i (.Pass ⟨0, 0, 0, 0⟩)
abbrev s_RepeatedPlace_init : Stmt := inClass (top 5) 0
abbrev s_RepeatedKey_init : Stmt := inClass (top 6) 0
abbrev s_Unlawful_init : Stmt := inClass (top 7) 0
abbrev s_PlaceClash_init : Stmt := inClass (top 8) 0
abbrev s_RuleClash_init : Stmt := inClass (top 9) 0
abbrev s_PositionClash_init : Stmt := inClass (top 10) 0
abbrev s_ascending : Stmt := top 12
theorem sc_ascending : FnScope ["numbers"] ["numbers"] (defScope s_ascending) := ⟨rfl, rfl, rfl, by decide +kernel, rfl, by decide +kernel, by decide +kernel⟩
abbrev s_bar_of : Stmt := top 13
theorem sc_bar_of : FnScope ["marks"] ["marks"] (defScope s_bar_of) := ⟨rfl, rfl, rfl, by decide +kernel, rfl, by decide +kernel, by decide +kernel⟩
abbrev s_bars_in_order : Stmt := top 14
theorem sc_bars_in_order : FnScope ["bars", "kept", "size", "bar"] ["bars"] (defScope s_bars_in_order) := ⟨rfl, rfl, rfl, by decide +kernel, rfl, by decide +kernel, by decide +kernel⟩
abbrev s_first_repeated : Stmt := top 15
theorem sc_first_repeated : FnScope ["entries", "position", "entry"] ["entries"] (defScope s_first_repeated) := ⟨rfl, rfl, rfl, by decide +kernel, rfl, by decide +kernel, by decide +kernel⟩
abbrev s_merge_positions : Stmt := top 17
theorem sc_merge_positions : FnScope ["base", "first", "second", "merged", "position", "before", "ours", "theirs", "chosen"] ["base", "first", "second"] (defScope s_merge_positions) := ⟨rfl, rfl, rfl, by decide +kernel, rfl, by decide +kernel, by decide +kernel⟩
abbrev s_doubled : Stmt := top 18
theorem sc_doubled : FnScope ["arrangement", "standing", "entry", "item"] ["arrangement"] (defScope s_doubled) := ⟨rfl, rfl, rfl, by decide +kernel, rfl, by decide +kernel, by decide +kernel⟩
abbrev s_value_at : Stmt := top 20
theorem sc_value_at : FnScope ["book", "place"] ["book", "place"] (defScope s_value_at) := ⟨rfl, rfl, rfl, by decide +kernel, rfl, by decide +kernel, by decide +kernel⟩
abbrev s_distinct : Stmt := top 21
theorem sc_distinct : FnScope ["places", "position"] ["places"] (defScope s_distinct) := ⟨rfl, rfl, rfl, by decide +kernel, rfl, by decide +kernel, by decide +kernel⟩
abbrev s_filled_marks : Stmt := top 22
theorem sc_filled_marks : FnScope ["book", "places", "place"] ["book", "places"] (defScope s_filled_marks) := ⟨rfl, rfl, rfl, by decide +kernel, rfl, by decide +kernel, by decide +kernel⟩
abbrev s_first_of : Stmt := top 23
theorem sc_first_of : FnScope ["bars"] ["bars"] (defScope s_first_of) := ⟨rfl, rfl, rfl, by decide +kernel, rfl, by decide +kernel, by decide +kernel⟩
abbrev s_Apart_init : Stmt := inClass (top 25) 0
theorem sc_Apart_init : FnScope ["self", "places"] ["self", "places"] (defScope s_Apart_init) := ⟨rfl, rfl, rfl, by decide +kernel, rfl, by decide +kernel, by decide +kernel⟩
abbrev s_Apart_bars_in : Stmt := inClass (top 25) 2
theorem sc_Apart_bars_in : FnScope ["self", "book", "marks", "position", "one", "two"] ["self", "book"] (defScope s_Apart_bars_in) := ⟨rfl, rfl, rfl, by decide +kernel, rfl, by decide +kernel, by decide +kernel⟩
abbrev s_Apart_reason : Stmt := inClass (top 25) 3
theorem sc_Apart_reason : FnScope ["self", "book"] ["self", "book"] (defScope s_Apart_reason) := ⟨rfl, rfl, rfl, by decide +kernel, rfl, by decide +kernel, by decide +kernel⟩
abbrev s_Needs_init : Stmt := inClass (top 26) 0
theorem sc_Needs_init : FnScope ["self", "pairs", "first", "second", "pair", "place"] ["self", "pairs"] (defScope s_Needs_init) := ⟨rfl, rfl, rfl, by decide +kernel, rfl, by decide +kernel, by decide +kernel⟩
abbrev s_Needs_bars_in : Stmt := inClass (top 26) 2
theorem sc_Needs_bars_in : FnScope ["self", "book", "found", "first", "second"] ["self", "book"] (defScope s_Needs_bars_in) := ⟨rfl, rfl, rfl, by decide +kernel, rfl, by decide +kernel, by decide +kernel⟩
abbrev s_Needs_reason : Stmt := inClass (top 26) 3
theorem sc_Needs_reason : FnScope ["self", "book"] ["self", "book"] (defScope s_Needs_reason) := ⟨rfl, rfl, rfl, by decide +kernel, rfl, by decide +kernel, by decide +kernel⟩
abbrev s_RuleBook_init : Stmt := inClass (top 28) 0
theorem sc_RuleBook_init : FnScope ["self", "rules", "position", "key", "rule", "_"] ["self", "rules"] (defScope s_RuleBook_init) := ⟨rfl, rfl, rfl, by decide +kernel, rfl, by decide +kernel, by decide +kernel⟩
abbrev s_RuleBook_iter : Stmt := inClass (top 28) 1
theorem sc_RuleBook_iter : FnScope ["self"] ["self"] (defScope s_RuleBook_iter) := ⟨rfl, rfl, rfl, by decide +kernel, rfl, by decide +kernel, by decide +kernel⟩
abbrev s_RuleBook_reason : Stmt := inClass (top 28) 3
theorem sc_RuleBook_reason : FnScope ["self", "book", "key", "rule", "bar"] ["self", "book"] (defScope s_RuleBook_reason) := ⟨rfl, rfl, rfl, by decide +kernel, rfl, by decide +kernel, by decide +kernel⟩
abbrev s_position_place : Stmt := top 30
theorem sc_position_place : FnScope ["item"] ["item"] (defScope s_position_place) := ⟨rfl, rfl, rfl, by decide +kernel, rfl, by decide +kernel, by decide +kernel⟩
abbrev s_content_place : Stmt := top 31
theorem sc_content_place : FnScope ["item"] ["item"] (defScope s_content_place) := ⟨rfl, rfl, rfl, by decide +kernel, rfl, by decide +kernel, by decide +kernel⟩
abbrev s_item_rules : Stmt := top 32
theorem sc_item_rules : FnScope ["count", "pairs", "item", "apart"] ["count"] (defScope s_item_rules) := ⟨rfl, rfl, rfl, by decide +kernel, rfl, by decide +kernel, by decide +kernel⟩
abbrev s_arrange : Stmt := top 33
theorem sc_arrange : FnScope ["book", "count", "arrangement", "item", "position"] ["book", "count"] (defScope s_arrange) := ⟨rfl, rfl, rfl, by decide +kernel, rfl, by decide +kernel, by decide +kernel⟩
abbrev s_moving : Stmt := top 34
theorem sc_moving : FnScope ["item", "position"] ["item", "position"] (defScope s_moving) := ⟨rfl, rfl, rfl, by decide +kernel, rfl, by decide +kernel, by decide +kernel⟩
abbrev s_changing : Stmt := top 35
theorem sc_changing : FnScope ["item", "content"] ["item", "content"] (defScope s_changing) := ⟨rfl, rfl, rfl, by decide +kernel, rfl, by decide +kernel, by decide +kernel⟩
abbrev s_merged_value : Stmt := top 37
theorem sc_merged_value : FnScope ["origin", "is_open", "one", "two"] ["origin", "is_open", "one", "two"] (defScope s_merged_value) := ⟨rfl, rfl, rfl, by decide +kernel, rfl, by decide +kernel, by decide +kernel⟩
abbrev s_value_merge : Stmt := top 38
theorem sc_value_merge : FnScope ["base", "open_places", "first", "second", "book", "clashing", "place", "one", "two", "value"] ["base", "open_places", "first", "second"] (defScope s_value_merge) := ⟨rfl, rfl, rfl, by decide +kernel, rfl, by decide +kernel, by decide +kernel⟩
abbrev s_require_lawful : Stmt := top 40
theorem sc_require_lawful : FnScope ["rulebook", "book", "broken"] ["rulebook", "book"] (defScope s_require_lawful) := ⟨rfl, rfl, rfl, by decide +kernel, rfl, by decide +kernel, by decide +kernel⟩
abbrev s_merge_two : Stmt := top 41
theorem sc_merge_two : FnScope ["rulebook", "base", "first", "second", "book", "merged", "clashing", "place", "broken"] ["rulebook", "base", "first", "second"] (defScope s_merge_two) := ⟨rfl, rfl, rfl, by decide +kernel, rfl, by decide +kernel, by decide +kernel⟩
abbrev s_open : Stmt := top 43
theorem sc_open : FnScope ["_law_script", "_law_at", "_law_cell"] ["_law_script", "_law_at"] (defScope s_open) := ⟨rfl, rfl, rfl, by decide +kernel, rfl, by decide +kernel, by decide +kernel⟩
abbrev s_take : Stmt := top 44
theorem sc_take : FnScope ["_law_box", "_law_size", "_law_drawn", "_law_k", "_law_mixed"] ["_law_box", "_law_size"] (defScope s_take) := ⟨rfl, rfl, rfl, by decide +kernel, rfl, by decide +kernel, by decide +kernel⟩
abbrev s_choose : Stmt := top 45
theorem sc_choose : FnScope ["_law_box", "_law_rows", "_law_count", "_law_rest", "_law_chosen", "_law_k", "_law_at"] ["_law_box", "_law_rows", "_law_count"] (defScope s_choose) := ⟨rfl, rfl, rfl, by decide +kernel, rfl, by decide +kernel, by decide +kernel⟩
abbrev s_is_book : Stmt := top 46
theorem sc_is_book : FnScope ["_law_told", "_law_place"] ["_law_told"] (defScope s_is_book) := ⟨rfl, rfl, rfl, by decide +kernel, rfl, by decide +kernel, by decide +kernel⟩
abbrev s_ints : Stmt := top 47
theorem sc_ints : FnScope ["_law_told", "_law_entry"] ["_law_told"] (defScope s_ints) := ⟨rfl, rfl, rfl, by decide +kernel, rfl, by decide +kernel, by decide +kernel⟩
abbrev s_book_of : Stmt := top 48
theorem sc_book_of : FnScope ["_law_stand", "_law_book", "_law_item"] ["_law_stand"] (defScope s_book_of) := ⟨rfl, rfl, rfl, by decide +kernel, rfl, by decide +kernel, by decide +kernel⟩
abbrev s_broken : Stmt := top 49
theorem sc_broken : FnScope ["_law_stand", "_law_positions", "_law_k", "_law_row"] ["_law_stand"] (defScope s_broken) := ⟨rfl, rfl, rfl, by decide +kernel, rfl, by decide +kernel, by decide +kernel⟩
abbrev s_is_arrangement : Stmt := top 50
theorem sc_is_arrangement : FnScope ["_law_told", "_law_position", "_law_entry"] ["_law_told"] (defScope s_is_arrangement) := ⟨rfl, rfl, rfl, by decide +kernel, rfl, by decide +kernel, by decide +kernel⟩
abbrev s_sides : Stmt := top 51
theorem sc_sides : FnScope ["_law_box", "_law_count", "_law_items", "_law_cut", "_law_turned", "_law_k"] ["_law_box", "_law_count"] (defScope s_sides) := ⟨rfl, rfl, rfl, by decide +kernel, rfl, by decide +kernel, by decide +kernel⟩
abbrev s_later : Stmt := top 52
theorem sc_later : FnScope ["_law_box", "_law_stand", "_law_items", "_law_top", "_law_rows", "_law_row", "_law_kind", "_law_other", "_law_held"] ["_law_box", "_law_stand", "_law_items", "_law_top"] (defScope s_later) := ⟨rfl, rfl, rfl, by decide +kernel, rfl, by decide +kernel, by decide +kernel⟩
abbrev s_grown : Stmt := top 53
theorem sc_grown : FnScope ["_law_box", "_law_stand", "_law_items", "_law_top", "_law_steps", "_law_rows", "_law_k"] ["_law_box", "_law_stand", "_law_items", "_law_top", "_law_steps"] (defScope s_grown) := ⟨rfl, rfl, rfl, by decide +kernel, rfl, by decide +kernel, by decide +kernel⟩
abbrev s_arranged : Stmt := top 54
theorem sc_arranged : FnScope ["_law_stand", "_law_rows", "_law_item"] ["_law_stand"] (defScope s_arranged) := ⟨rfl, rfl, rfl, by decide +kernel, rfl, by decide +kernel, by decide +kernel⟩
abbrev s_by_positions : Stmt := top 55
theorem sc_by_positions : FnScope ["_law_three", "_law_keys", "_law_arranged_here", "_law_merged", "_law_position", "_law_before", "_law_ours", "_law_theirs", "_law_key"] ["_law_three"] (defScope s_by_positions) := ⟨rfl, rfl, rfl, by decide +kernel, rfl, by decide +kernel, by decide +kernel⟩
abbrev s_first_bar : Stmt := top 56
theorem sc_first_bar : FnScope ["_law_stand", "_law_key", "_law_item", "_law_row", "_law_other"] ["_law_stand", "_law_key"] (defScope s_first_bar) := ⟨rfl, rfl, rfl, by decide +kernel, rfl, by decide +kernel, by decide +kernel⟩
abbrev s_by_places : Stmt := top 57
theorem sc_by_places : FnScope ["_law_three", "_law_stand", "_law_item", "_law_row", "_law_side", "_law_before", "_law_ours", "_law_theirs", "_law_key"] ["_law_three"] (defScope s_by_places) := ⟨rfl, rfl, rfl, by decide +kernel, rfl, by decide +kernel, by decide +kernel⟩
abbrev s_positions_told : Stmt := top 58
theorem sc_positions_told : FnScope ["_law_three", "e"] ["_law_three"] (defScope s_positions_told) := ⟨rfl, rfl, rfl, by decide +kernel, rfl, by decide +kernel, by decide +kernel⟩
abbrev s_places_told : Stmt := top 59
theorem sc_places_told : FnScope ["_law_rules", "_law_books", "e"] ["_law_rules", "_law_books"] (defScope s_places_told) := ⟨rfl, rfl, rfl, by decide +kernel, rfl, by decide +kernel, by decide +kernel⟩
abbrev s_twice : Stmt := top 60
theorem sc_twice : FnScope ["_law_three", "_law_rows", "_law_item", "_law_before", "_law_ours", "_law_theirs"] ["_law_three"] (defScope s_twice) := ⟨rfl, rfl, rfl, by decide +kernel, rfl, by decide +kernel, by decide +kernel⟩
abbrev s_nothing_lost : Stmt := top 61
theorem sc_nothing_lost : FnScope ["_law_three", "_law_merged", "_law_standing", "_law_item", "_law_told", "_law_position"] ["_law_three", "_law_merged"] (defScope s_nothing_lost) := ⟨rfl, rfl, rfl, by decide +kernel, rfl, by decide +kernel, by decide +kernel⟩
abbrev s_judged : Stmt := top 62
theorem sc_judged : FnScope ["_law_rules", "_law_three", "_law_count", "_law_arranged_here", "_law_books", "_law_due", "_law_due_book", "_law_turn", "_law_told", "_law_told_book", "_law_merged", "_law_book", "_law_k", "_law_stand"] ["_law_rules", "_law_three"] (defScope s_judged) := ⟨rfl, rfl, rfl, by decide +kernel, rfl, by decide +kernel, by decide +kernel⟩
abbrev s_one_moved : Stmt := top 63
theorem sc_one_moved : FnScope ["_law_box", "_law_rules", "_law_stand", "_law_standing", "_law_item", "_law_used", "_law_position", "_law_content", "_law_first", "_law_second", "_law_row", "_law_p"] ["_law_box", "_law_rules", "_law_stand"] (defScope s_one_moved) := ⟨rfl, rfl, rfl, by decide +kernel, rfl, by decide +kernel, by decide +kernel⟩
abbrev s_law : Stmt := top 64
theorem sc_law : FnScope ["_law_script", "_law_box", "_law_count", "_law_top", "_law_steps", "_law_items", "_law_deeds", "_law_empty", "_law_base", "_law_sides_here", "_law_first", "_law_second", "_law_rules", "_law_k"] ["_law_script"] (defScope s_law) := ⟨rfl, rfl, rfl, by decide +kernel, rfl, by decide +kernel, by decide +kernel⟩
def d_ascending : He.DefD := ⟨("ascending", none), "ascending", "ascending", defArgs s_ascending, defBody s_ascending, defScope s_ascending, [], []⟩
def d_bar_of : He.DefD := ⟨("bar_of", none), "bar_of", "bar_of", defArgs s_bar_of, defBody s_bar_of, defScope s_bar_of, [], []⟩
def d_bars_in_order : He.DefD := ⟨("bars_in_order", none), "bars_in_order", "bars_in_order", defArgs s_bars_in_order, defBody s_bars_in_order, defScope s_bars_in_order, [], []⟩
def d_first_repeated : He.DefD := ⟨("first_repeated", none), "first_repeated", "first_repeated", defArgs s_first_repeated, defBody s_first_repeated, defScope s_first_repeated, [], []⟩
def d_merge_positions : He.DefD := ⟨("merge_positions", none), "merge_positions", "merge_positions", defArgs s_merge_positions, defBody s_merge_positions, defScope s_merge_positions, [], []⟩
def d_doubled : He.DefD := ⟨("doubled", none), "doubled", "doubled", defArgs s_doubled, defBody s_doubled, defScope s_doubled, [], []⟩
def d_value_at : He.DefD := ⟨("value_at", none), "value_at", "value_at", defArgs s_value_at, defBody s_value_at, defScope s_value_at, [], []⟩
def d_distinct : He.DefD := ⟨("distinct", none), "distinct", "distinct", defArgs s_distinct, defBody s_distinct, defScope s_distinct, [], []⟩
def d_filled_marks : He.DefD := ⟨("filled_marks", none), "filled_marks", "filled_marks", defArgs s_filled_marks, defBody s_filled_marks, defScope s_filled_marks, [], []⟩
def d_first_of : He.DefD := ⟨("first_of", none), "first_of", "first_of", defArgs s_first_of, defBody s_first_of, defScope s_first_of, [], []⟩
def d_Apart_init : He.DefD := ⟨("Apart", some "__init__"), "__init__", "Apart.__init__", defArgs s_Apart_init, defBody s_Apart_init, defScope s_Apart_init, [], []⟩
def d_Apart_bars_in : He.DefD := ⟨("Apart", some "bars_in"), "bars_in", "Apart.bars_in", defArgs s_Apart_bars_in, defBody s_Apart_bars_in, defScope s_Apart_bars_in, [], []⟩
def d_Apart_reason : He.DefD := ⟨("Apart", some "reason"), "reason", "Apart.reason", defArgs s_Apart_reason, defBody s_Apart_reason, defScope s_Apart_reason, [], []⟩
def d_Needs_init : He.DefD := ⟨("Needs", some "__init__"), "__init__", "Needs.__init__", defArgs s_Needs_init, defBody s_Needs_init, defScope s_Needs_init, [], []⟩
def d_Needs_bars_in : He.DefD := ⟨("Needs", some "bars_in"), "bars_in", "Needs.bars_in", defArgs s_Needs_bars_in, defBody s_Needs_bars_in, defScope s_Needs_bars_in, [], []⟩
def d_Needs_reason : He.DefD := ⟨("Needs", some "reason"), "reason", "Needs.reason", defArgs s_Needs_reason, defBody s_Needs_reason, defScope s_Needs_reason, [], []⟩
def d_RuleBook_init : He.DefD := ⟨("RuleBook", some "__init__"), "__init__", "RuleBook.__init__", defArgs s_RuleBook_init, defBody s_RuleBook_init, defScope s_RuleBook_init, [], []⟩
def d_RuleBook_iter : He.DefD := ⟨("RuleBook", some "__iter__"), "__iter__", "RuleBook.__iter__", defArgs s_RuleBook_iter, defBody s_RuleBook_iter, defScope s_RuleBook_iter, [], []⟩
def d_RuleBook_reason : He.DefD := ⟨("RuleBook", some "reason"), "reason", "RuleBook.reason", defArgs s_RuleBook_reason, defBody s_RuleBook_reason, defScope s_RuleBook_reason, [], []⟩
def d_position_place : He.DefD := ⟨("position_place", none), "position_place", "position_place", defArgs s_position_place, defBody s_position_place, defScope s_position_place, [], []⟩
def d_content_place : He.DefD := ⟨("content_place", none), "content_place", "content_place", defArgs s_content_place, defBody s_content_place, defScope s_content_place, [], []⟩
def d_item_rules : He.DefD := ⟨("item_rules", none), "item_rules", "item_rules", defArgs s_item_rules, defBody s_item_rules, defScope s_item_rules, [], []⟩
def d_arrange : He.DefD := ⟨("arrange", none), "arrange", "arrange", defArgs s_arrange, defBody s_arrange, defScope s_arrange, [], []⟩
def d_moving : He.DefD := ⟨("moving", none), "moving", "moving", defArgs s_moving, defBody s_moving, defScope s_moving, [], []⟩
def d_changing : He.DefD := ⟨("changing", none), "changing", "changing", defArgs s_changing, defBody s_changing, defScope s_changing, [], []⟩
def d_merged_value : He.DefD := ⟨("merged_value", none), "merged_value", "merged_value", defArgs s_merged_value, defBody s_merged_value, defScope s_merged_value, [], []⟩
def d_value_merge : He.DefD := ⟨("value_merge", none), "value_merge", "value_merge", defArgs s_value_merge, defBody s_value_merge, defScope s_value_merge, [], []⟩
def d_require_lawful : He.DefD := ⟨("require_lawful", none), "require_lawful", "require_lawful", defArgs s_require_lawful, defBody s_require_lawful, defScope s_require_lawful, [], []⟩
def d_merge_two : He.DefD := ⟨("merge_two", none), "merge_two", "merge_two", defArgs s_merge_two, defBody s_merge_two, defScope s_merge_two, [], []⟩
def d_open : He.DefD := ⟨("_law_open", none), "_law_open", "_law_open", defArgs s_open, defBody s_open, defScope s_open, [], []⟩
def d_take : He.DefD := ⟨("_law_take", none), "_law_take", "_law_take", defArgs s_take, defBody s_take, defScope s_take, [], []⟩
def d_choose : He.DefD := ⟨("_law_choose", none), "_law_choose", "_law_choose", defArgs s_choose, defBody s_choose, defScope s_choose, [], []⟩
def d_is_book : He.DefD := ⟨("_law_is_book", none), "_law_is_book", "_law_is_book", defArgs s_is_book, defBody s_is_book, defScope s_is_book, [], []⟩
def d_ints : He.DefD := ⟨("_law_ints", none), "_law_ints", "_law_ints", defArgs s_ints, defBody s_ints, defScope s_ints, [], []⟩
def d_book_of : He.DefD := ⟨("_law_book_of", none), "_law_book_of", "_law_book_of", defArgs s_book_of, defBody s_book_of, defScope s_book_of, [], []⟩
def d_broken : He.DefD := ⟨("_law_broken", none), "_law_broken", "_law_broken", defArgs s_broken, defBody s_broken, defScope s_broken, [], []⟩
def d_is_arrangement : He.DefD := ⟨("_law_is_arrangement", none), "_law_is_arrangement", "_law_is_arrangement", defArgs s_is_arrangement, defBody s_is_arrangement, defScope s_is_arrangement, [], []⟩
def d_sides : He.DefD := ⟨("_law_sides", none), "_law_sides", "_law_sides", defArgs s_sides, defBody s_sides, defScope s_sides, [], []⟩
def d_later : He.DefD := ⟨("_law_later", none), "_law_later", "_law_later", defArgs s_later, defBody s_later, defScope s_later, [], []⟩
def d_grown : He.DefD := ⟨("_law_grown", none), "_law_grown", "_law_grown", defArgs s_grown, defBody s_grown, defScope s_grown, [], []⟩
def d_arranged : He.DefD := ⟨("_law_arranged", none), "_law_arranged", "_law_arranged", defArgs s_arranged, defBody s_arranged, defScope s_arranged, [], []⟩
def d_by_positions : He.DefD := ⟨("_law_by_positions", none), "_law_by_positions", "_law_by_positions", defArgs s_by_positions, defBody s_by_positions, defScope s_by_positions, [], []⟩
def d_first_bar : He.DefD := ⟨("_law_first_bar", none), "_law_first_bar", "_law_first_bar", defArgs s_first_bar, defBody s_first_bar, defScope s_first_bar, [], []⟩
def d_by_places : He.DefD := ⟨("_law_by_places", none), "_law_by_places", "_law_by_places", defArgs s_by_places, defBody s_by_places, defScope s_by_places, [], []⟩
def d_positions_told : He.DefD := ⟨("_law_positions_told", none), "_law_positions_told", "_law_positions_told", defArgs s_positions_told, defBody s_positions_told, defScope s_positions_told, [], []⟩
def d_places_told : He.DefD := ⟨("_law_places_told", none), "_law_places_told", "_law_places_told", defArgs s_places_told, defBody s_places_told, defScope s_places_told, [], []⟩
def d_twice : He.DefD := ⟨("_law_twice", none), "_law_twice", "_law_twice", defArgs s_twice, defBody s_twice, defScope s_twice, [], []⟩
def d_nothing_lost : He.DefD := ⟨("_law_nothing_lost", none), "_law_nothing_lost", "_law_nothing_lost", defArgs s_nothing_lost, defBody s_nothing_lost, defScope s_nothing_lost, [], []⟩
def d_judged : He.DefD := ⟨("_law_judged", none), "_law_judged", "_law_judged", defArgs s_judged, defBody s_judged, defScope s_judged, [], []⟩
def d_one_moved : He.DefD := ⟨("_law_one_moved", none), "_law_one_moved", "_law_one_moved", defArgs s_one_moved, defBody s_one_moved, defScope s_one_moved, [], []⟩
def d_law : He.DefD := ⟨("law", none), "law", "law", defArgs s_law, defBody s_law, defScope s_law, [], []⟩
def loose0 : List PySem.Str := ["_wall", "ShelfError", "RuleError", "ClashError", "RepeatedPlace", "RepeatedKey", "Unlawful", "PlaceClash", "RuleClash", "PositionClash"]
def loose1 : List PySem.Str := ["ascending", "bar_of", "bars_in_order", "first_repeated", "merge_positions", "doubled", "value_at", "distinct", "filled_marks", "first_of"]
def loose2 : List PySem.Str := ["Apart", "Needs", "RuleBook", "position_place", "content_place", "item_rules", "arrange", "moving", "changing", "merged_value"]
def loose3 : List PySem.Str := ["value_merge", "require_lawful", "merge_two", "_law_open", "_law_take", "_law_choose", "_law_is_book", "_law_ints", "_law_book_of", "_law_broken"]
def loose4 : List PySem.Str := ["_law_is_arrangement", "_law_sides", "_law_later", "_law_grown", "_law_arranged", "_law_by_positions", "_law_first_bar", "_law_by_places", "_law_positions_told", "_law_places_told"]
def loose5 : List PySem.Str := ["_law_twice", "_law_nothing_lost", "_law_judged", "_law_one_moved"]
def loose : List PySem.Str := loose0 ++ (loose1 ++ (loose2 ++ (loose3 ++ (loose4 ++ (loose5)))))
def fn0 : List He.DefD := [d_ascending, d_bar_of, d_bars_in_order, d_first_repeated, d_merge_positions, d_doubled, d_value_at, d_distinct, d_filled_marks, d_first_of]
def fn1 : List He.DefD := [d_Apart_init, d_Apart_bars_in, d_Apart_reason, d_Needs_init, d_Needs_bars_in, d_Needs_reason, d_RuleBook_init, d_RuleBook_iter, d_RuleBook_reason, d_position_place]
def fn2 : List He.DefD := [d_content_place, d_item_rules, d_arrange, d_moving, d_changing, d_merged_value, d_value_merge, d_require_lawful, d_merge_two, d_open]
def fn3 : List He.DefD := [d_take, d_choose, d_is_book, d_ints, d_book_of, d_broken, d_is_arrangement, d_sides, d_later, d_grown]
def fn4 : List He.DefD := [d_arranged, d_by_positions, d_first_bar, d_by_places, d_positions_told, d_places_told, d_twice, d_nothing_lost, d_judged, d_one_moved]
def fn5 : List He.DefD := [d_law]
def fn : List He.DefD := fn0 ++ (fn1 ++ (fn2 ++ (fn3 ++ (fn4 ++ (fn5)))))
end K80
end
section
set_option maxHeartbeats 4000000
/-! The words of the claim: books, arrangements, stands, as they lie on the heap. -/
namespace K80
open PySem PySem.Spec PyProof.Rows L2 Inf
/-- the built-in names that the program leaves as they are -/
structure BT (mg : Str → Option Value) : Prop where
  len : mg "len" = none
  int : mg "int" = none
  list : mg "list" = none
  range : mg "range" = none
  sorted : mg "sorted" = none
  set : mg "set" = none
  tuple : mg "tuple" = none
  min : mg "min" = none
  enumerate : mg "enumerate" = none
  isinstance : mg "isinstance" = none
  repr : mg "repr" = none
  sup : mg "super" = none
  dict : mg "dict" = none
  bool : mg "bool" = none
  iter : mg "iter" = none
theorem szr {n : Nat} (h : Nat.ble n 100000 = true := by rfl) : n ≤ sizeLine := sz (Nat.le_of_ble_eq_true h)
/-! ### plain tables -/
def get {α : Type} : List (Int × α) → Int → Option α
  | [], _ => none
  | (k, v) :: r, p => if p = k then some v else get r p
theorem get_append {α : Type} (l m : List (Int × α)) (p : Int) : get (l ++ m) p = (get l p).or (get m p) := by
  induction l with
  | nil => simp [get]
  | cons x r ih =>
    obtain ⟨k, v⟩ := x
    simp only [List.cons_append, get]
    split
    · rfl
    · exact ih
theorem get_none {α : Type} {l : List (Int × α)} {p : Int} : get l p = none ↔ p ∉ l.map (·.1) := by
  induction l with
  | nil => simp [get]
  | cons x r ih =>
    obtain ⟨k, v⟩ := x
    simp only [get, List.map_cons, List.mem_cons]
    by_cases h : p = k
    · simp [h]
    · simp [h, ih]
theorem get_mem {α : Type} {l : List (Int × α)} {p : Int} {v : α} (h : get l p = some v) : (p, v) ∈ l := by
  induction l with
  | nil => simp [get] at h
  | cons x r ih =>
    obtain ⟨k, u⟩ := x
    simp only [get] at h
    by_cases e : p = k
    · rw [if_pos e] at h
      cases h
      subst e
      exact List.mem_cons_self
    · rw [if_neg e] at h
      exact List.mem_cons_of_mem _ (ih h)
theorem get_of_mem {α : Type} {l : List (Int × α)} {p : Int} {v : α} (nd : (l.map (·.1)).Nodup) (h : (p, v) ∈ l) : get l p = some v := by
  induction l with
  | nil => cases h
  | cons x r ih =>
    obtain ⟨k, u⟩ := x
    have n1 := List.nodup_cons.mp nd
    simp only [get]
    rcases List.mem_cons.mp h with e | h
    · cases e
      simp
    · have ne : p ≠ k := fun e => n1.1 (e ▸ List.mem_map_of_mem (f := (·.1)) h)
      rw [if_neg ne]
      exact ih n1.2 h
/-! ### a book -/
def kvI (kvs : List (Int × Int)) : List (Key × V) := kvs.map fun p => (Sum.inl p.1, V.int p.2)
def Bk (H : Hp) (a : Addr) (kvs : List (Int × Int)) : Prop := H a = some (.dK (kvI kvs))
theorem valV_kvI (kvs : List (Int × Int)) (k : Int) : valV (kvI kvs) (Sum.inl k) = (get kvs k).map V.int := by
  induction kvs with
  | nil => rfl
  | cons x r ih =>
    obtain ⟨j, v⟩ := x
    show valV ((Sum.inl j, V.int v) :: kvI r) (Sum.inl k) = _
    by_cases h : k = j
    · subst h
      rw [valV_pos rfl]
      simp [get]
    · rw [valV_neg (by intro e; exact h (Sum.inl.inj e).symm), ih]
      simp [get, h]
theorem putK_kvI {kvs : List (Int × Int)} {k v : Int} (h : get kvs k = none) : putK (kvI kvs) (Sum.inl k) (V.int v) = kvI (kvs ++ [(k, v)]) := by
  rw [putK_new _ (by rw [valV_kvI, h]; rfl)]
  simp [kvI]
theorem kvI_len (kvs : List (Int × Int)) : (kvI kvs).length = kvs.length := by simp [kvI]
/-! ### a list of ints -/
def Ls (H : Hp) (a : Addr) (ns : List Int) : Prop := H a = some (.lst (ns.map V.int))
theorem Ls.sq {K : PySem.W.Frag} {H : Hp} {a : Addr} {ns : List Int} (h : Ls H a ns) : SqL K H a (ns.map V.int) := SqL.of h
/-! ### a list of pairs of ints -/
def Mk2 (H : Hp) (x : V) (p : Int × Int) : Prop := ∃ t, x = .ref t ∧ H t = some (.tup [.int p.1, .int p.2])
theorem Mk2.same {H H' : Hp} (e : Same H H') {x : V} {p : Int × Int} (h : Mk2 H x p) : Mk2 H' x p := let ⟨t, a, b⟩ := h; ⟨t, a, e _ _ b⟩
def Ms (H : Hp) (a : Addr) (ps : List (Int × Int)) : Prop := ∃ xs, H a = some (.lst xs) ∧ Paired (Mk2 H) xs ps
theorem paired_mono {α β : Type} {R S : α → β → Prop} (h : ∀ x y, R x y → S x y) {xs : List α} {ys : List β} (p : Paired R xs ys) : Paired S xs ys := by
  induction p with
  | nil => exact .nil
  | cons a _ ih => exact .cons (h _ _ a) ih
theorem paired_at {α β : Type} {R : α → β → Prop} {xs : List α} {ys : List β} (p : Paired R xs ys) {i : Nat} {x : α} (h : xs[i]? = some x) : ∃ y, ys[i]? = some y ∧ R x y := by
  induction p generalizing i with
  | nil => simp at h
  | cons a _ ih =>
    cases i with
    | zero => simp at h; subst h; exact ⟨_, by simp, a⟩
    | succ i => simpa using ih (by simpa using h)
theorem paired_at' {α β : Type} {R : α → β → Prop} {xs : List α} {ys : List β} (p : Paired R xs ys) {i : Nat} {y : β} (h : ys[i]? = some y) : ∃ x, xs[i]? = some x ∧ R x y := by
  induction p generalizing i with
  | nil => simp at h
  | cons a _ ih =>
    cases i with
    | zero => simp at h; subst h; exact ⟨_, by simp, a⟩
    | succ i => simpa using ih (by simpa using h)
theorem paired_snoc {α β : Type} {R : α → β → Prop} {xs : List α} {ys : List β} (p : Paired R xs ys) {x : α} {y : β} (h : R x y) : Paired R (xs ++ [x]) (ys ++ [y]) := by
  induction p with
  | nil => exact .cons h .nil
  | cons a _ ih => exact .cons a ih
theorem paired_drop {α β : Type} {R : α → β → Prop} {xs : List α} {ys : List β} (p : Paired R xs ys) (n : Nat) : Paired R (xs.drop n) (ys.drop n) := by
  induction p generalizing n with
  | nil => simpa using Paired.nil
  | cons a q ih =>
    cases n with
    | zero => exact .cons a q
    | succ n => simpa using ih n
theorem Ms.same {H H' : Hp} (e : Same H H') {a : Addr} {ps : List (Int × Int)} (h : Ms H a ps) : Ms H' a ps := let ⟨xs, x, y⟩ := h; ⟨xs, e _ _ x, paired_mono (fun _ _ r => r.same e) y⟩
/-! ### an arrangement -/
def Ent (H : Hp) (kv : Key × V) (e : Int × (Int × Int)) : Prop := kv.1 = Sum.inl e.1 ∧ Mk2 H kv.2 e.2
theorem Ent.same {H H' : Hp} (e : Same H H') {kv : Key × V} {p : Int × (Int × Int)} (h : Ent H kv p) : Ent H' kv p := ⟨h.1, h.2.same e⟩
def Ar (H : Hp) (a : Addr) (l : List (Int × (Int × Int))) : Prop := ∃ kvs, H a = some (.dK kvs) ∧ Paired (Ent H) kvs l
theorem Ar.same {H H' : Hp} (e : Same H H') {a : Addr} {l : List (Int × (Int × Int))} (h : Ar H a l) : Ar H' a l := let ⟨xs, x, y⟩ := h; ⟨xs, e _ _ x, paired_mono (fun _ _ r => r.same e) y⟩
/-- what a lookup gives -/
def EntO (H : Hp) : Option V → Option (Int × Int) → Prop
  | none, none => True
  | some v, some p => Mk2 H v p
  | _, _ => False
theorem ent_val {H : Hp} {kvs : List (Key × V)} {l : List (Int × (Int × Int))} (p : Paired (Ent H) kvs l) (k : Int) : EntO H (valV kvs (Sum.inl k)) (get l k) := by
  induction p with
  | nil => exact True.intro
  | @cons kv e r s h _ ih =>
    obtain ⟨j, v⟩ := e
    obtain ⟨h1, h2⟩ := h
    by_cases hk : k = j
    · subst hk
      rw [valV_pos h1]
      simp only [get, if_pos]
      exact h2
    · rw [valV_neg (by rw [h1]; intro e; exact hk (Sum.inl.inj e).symm)]
      simp only [get, if_neg hk]
      exact ih
theorem entO_none {H : Hp} {o : Option V} (h : EntO H o none) : o = none := by
  cases o with
  | none => rfl
  | some _ => exact h.elim
theorem entO_some {H : Hp} {o : Option V} {p : Int × Int} (h : EntO H o (some p)) : ∃ t, o = some (.ref t) ∧ H t = some (.tup [.int p.1, .int p.2]) := by
  cases o with
  | none => exact h.elim
  | some v => obtain ⟨t, e, z⟩ := (show Mk2 H v p from h); exact ⟨t, by rw [e], z⟩
theorem Ar.put {H : Hp} {kvs : List (Key × V)} {l : List (Int × (Int × Int))} (p : Paired (Ent H) kvs l) {k : Int} (h : get l k = none) (v : V) : putK kvs (Sum.inl k) v = kvs ++ [(Sum.inl k, v)] := by
  refine putK_new _ (entO_none (H := H) ?_)
  rw [← h]
  exact ent_val p k
/-! ### a stand -/
def Row (H : Hp) (x : V) (p : Int × Int) : Prop := ∃ t, x = .ref t ∧ H t = some (.lst [.int p.1, .int p.2])
theorem Row.same {H H' : Hp} (e : Same H H') {x : V} {p : Int × Int} (h : Row H x p) : Row H' x p := let ⟨t, a, b⟩ := h; ⟨t, a, e _ _ b⟩
/-- its rows stand apart from one another -/
def St (H : Hp) (a : Addr) (rows : List (Int × Int)) : Prop := ∃ xs, H a = some (.lst xs) ∧ Paired (Row H) xs rows ∧ xs.Nodup
theorem St.same {H H' : Hp} (e : Same H H') {a : Addr} {rows : List (Int × Int)} (h : St H a rows) : St H' a rows := let ⟨xs, x, y, z⟩ := h; ⟨xs, e _ _ x, paired_mono (fun _ _ r => r.same e) y, z⟩
/-! ### heaps -/
/-- all that was tracked but a is as it was -/
def SameBut (a : Addr) (H H' : Hp) : Prop := ∀ b o, b ≠ a → H b = some o → H' b = some o
theorem SameBut.refl (a : Addr) (H : Hp) : SameBut a H H := fun _ _ _ h => h
theorem SameBut.trans {a : Addr} {H H1 H2 : Hp} (x : SameBut a H H1) (y : SameBut a H1 H2) : SameBut a H H2 := fun b o n h => y b o n (x b o n h)
theorem SameBut.of {a : Addr} {H H' : Hp} (h : Same H H') : SameBut a H H' := fun b o _ e => h b o e
theorem SameBut.upd {a : Addr} {H : Hp} {o : HO} : SameBut a H (upd H a o) := fun b u n e => by rw [upd_ne n]; exact e
theorem same_upd {p : Addr} {H : Hp} {o : HO} (h : H p = none) : Same H (L2.upd H p o) := fun b u e => by rw [upd_ne (ne_of_none e h)]; exact e
/-- the box: three ints -/
def Box (H : Hp) (b : Addr) : Prop := ∃ m c k : Int, H b = some (.lst [.int m, .int c, .int k])
theorem Row.but {b : Addr} {H H' : Hp} (e : SameBut b H H') (hb : Box H b) {x : V} {p : Int × Int} (h : Row H x p) : Row H' x p := by
  obtain ⟨t, a, z⟩ := h
  obtain ⟨m, c, k, hb⟩ := hb
  refine ⟨t, a, e _ _ (fun q => ?_) z⟩
  subst q
  rw [hb] at z
  cases z
theorem St.but {b : Addr} {H H' : Hp} (e : SameBut b H H') (hb : Box H b) {a : Addr} {rows : List (Int × Int)} (h : St H a rows) : St H' a rows := by
  obtain ⟨xs, x, y, z⟩ := h
  refine ⟨xs, e _ _ (fun q => ?_) x, paired_mono (fun _ _ r => r.but e hb) y, z⟩
  subst q
  obtain ⟨m, c, k, hb⟩ := hb
  rw [hb] at x
  cases x
  cases y with
  | cons r _ => obtain ⟨t, q, _⟩ := r; cases q
theorem same_unlock {d : Addr} {u : HO} {od : Obj} {H H' : Hp} (h : H d = some u) (e : Same (upd H d (.frz od u)) H') : Same H (upd H' d u) := fun b o q => by
  by_cases n : b = d
  · subst n
    rw [h] at q
    cases q
    exact upd_same
  · rw [upd_ne n]
    exact e _ _ (by rw [upd_ne n]; exact q)
theorem same_put {H0 H : Hp} {D : Addr} {o : HO} (e : Same H0 H) (n : H0 D = none) : Same H0 (L2.upd H D o) := fun b u q => by
  rw [upd_ne (ne_of_none q n)]
  exact e _ _ q
theorem Mk2.put {H : Hp} {D : Addr} {o u : HO} (hD : H D = some o) (hn : ∀ xs, o ≠ .tup xs) {x : V} {p : Int × Int} (h : Mk2 H x p) : Mk2 (upd H D u) x p := by
  obtain ⟨t, a, z⟩ := h
  refine ⟨t, a, ?_⟩
  rw [upd_ne (fun e => by subst e; rw [hD] at z; exact hn _ (Option.some.inj z))]
  exact z
/-- one more entry -/
theorem Ar.add {H : Hp} {D t : Addr} {ks : List (Key × V)} {l : List (Int × (Int × Int))} {p : Int} {x : Int × Int} (hD : H D = some (.dK ks)) (hp : Paired (Ent H) ks l) (g : get l p = none) (ht : H t = some (.tup [.int x.1, .int x.2])) :
    Ar (upd H D (.dK (putK ks (Sum.inl p) (.ref t)))) D (l ++ [(p, x)]) := by
  refine ⟨_, upd_same, ?_⟩
  rw [Ar.put hp g]
  refine paired_snoc (paired_mono (fun _ _ r => ⟨r.1, r.2.put hD (fun _ z => nomatch z)⟩) hp) ⟨rfl, t, rfl, ?_⟩
  rw [upd_ne (fun e => by subst e; rw [hD] at ht; cases ht)]
  exact ht
theorem Ar.get {H : Hp} {D : Addr} {l : List (Int × (Int × Int))} (h : Ar H D l) : ∃ ks, H D = some (.dK ks) ∧ Paired (Ent H) ks l ∧ ks.length = l.length := let ⟨ks, a, b⟩ := h; ⟨ks, a, b, Paired.length b⟩
end K80
end
section
set_option maxHeartbeats 4000000
/-! The walk of the program's small defs. -/
namespace K80
open PySem PySem.Spec PyProof.Rows L2 Inf
section
variable {P : Program} {w : World} {K : PySem.W.Frag} {mg : Str → Option Value} {base : Heap} {f : Addr} {fd : FuncData}
/-! ### value_at -/
def sp_value_at (K : PySem.W.Frag) : Sp := fun vs H Q _ => ∃ (a : Addr) (kvs : List (Int × Int)) (k : Int), vs = [.ref a, .int k] ∧ Bk H a kvs ∧ Q (.int ((get kvs k).getD 0)) H
theorem ok_value_at (F : FnP K "value_at" "value_at" s_value_at f fd) : FnOk P w K mg base CX0 1 f fd ["book", "place"] (sp_value_at K) := by
  refine okN F sc_value_at (fun vs H Q E h => ?_) (fun cdv A outer s H vs Q E hr h => ?_)
  · obtain ⟨_, _, _, rfl, _⟩ := h
    rfl
  obtain ⟨a, kvs, k, rfl, hB, hQ⟩ := h
  have hu := hu_of hr
  refine ⟨_, pss_one (ps_ret (pe_dget2 hu (pv 0) (pv 1) pe_int ⟨rfl, rfl, rfl, rfl⟩)), ?_⟩
  refine ⟨_, rfl, _, rfl, .inl ⟨_, .inl hB⟩, _, rfl, _, DGet.k (k := .inl k) hB, ?_⟩
  rw [valV_kvI]
  cases e : get kvs k with
  | none => rw [e] at hQ; exact hQ
  | some v => rw [e] at hQ; exact hQ
/-! ### first_of -/
def sp_first_of (K : PySem.W.Frag) : Sp := fun vs H Q _ => ∃ (a : Addr) (xs : List V), vs = [.ref a] ∧ H a = some (.lst xs) ∧ Q (xs.head?.getD .non) H
theorem ok_first_of (F : FnP K "first_of" "first_of" s_first_of f fd) : FnOk P w K mg base CX0 1 f fd ["bars"] (sp_first_of K) := by
  refine okN F sc_first_of (fun vs H Q E h => ?_) (fun cdv A outer s H vs Q E hr h => ?_)
  · obtain ⟨_, _, rfl, _⟩ := h
    rfl
  obtain ⟨a, xs, rfl, hB, hQ⟩ := h
  refine ⟨_, pss_one (ps_ret (pe_ifExp (pt_truth (pv 0) (by intro _; rfl)) (pe_ix ix_list (pv 0) pe_int (fun _ _ => rfl)) pe_non)), ?_⟩
  refine ⟨_, rfl, !xs.isEmpty, ?_, ?_⟩
  · exact .inl ⟨xs, SqL.of hB, rfl⟩
  · cases xs with
    | nil => exact hQ
    | cons x r => exact ⟨_, rfl, _, _, _, _, rfl, rfl, SqL.of hB, atI_nat (j := 0) (v := x) (by simp), hQ⟩
/-! ### places of items -/
def sp_position_place : Sp := fun vs H Q _ => ∃ (i : Int), vs = [.int i] ∧ Q (.int (2 * i)) H
theorem ok_position_place (F : FnP K "position_place" "position_place" s_position_place f fd) : FnOk P w K mg base CX0 1 f fd ["item"] sp_position_place := by
  refine okN F sc_position_place (fun vs H Q E h => ?_) (fun cdv A outer s H vs Q E hr h => ?_)
  · obtain ⟨_, rfl, _⟩ := h
    rfl
  obtain ⟨i, rfl, hQ⟩ := h
  refine ⟨_, pss_one (ps_ret (pe_op op_mul pe_int (pv 0))), ?_⟩
  exact ⟨_, rfl, _, _, rfl, rfl, .inl ⟨by decide, by decide⟩, hQ⟩
def sp_content_place : Sp := fun vs H Q _ => ∃ (i : Int), vs = [.int i] ∧ Q (.int (2 * i + 1)) H
theorem ok_content_place (F : FnP K "content_place" "content_place" s_content_place f fd) : FnOk P w K mg base CX0 1 f fd ["item"] sp_content_place := by
  refine okN F sc_content_place (fun vs H Q E h => ?_) (fun cdv A outer s H vs Q E hr h => ?_)
  · obtain ⟨_, rfl, _⟩ := h
    rfl
  obtain ⟨i, rfl, hQ⟩ := h
  refine ⟨_, pss_one (ps_ret (pe_op op_add (pe_op op_mul pe_int (pv 0)) pe_int)), ?_⟩
  exact ⟨_, rfl, _, _, rfl, rfl, .inl ⟨by decide, by decide⟩, _, _, rfl, rfl, hQ⟩
/-! ### merged_value -/
def mval (b : Int) (o t : Int) : Option Int := if o = t then some o else if o = b then some t else if t = b then some o else none
def sp_merged_value : Sp := fun vs H Q _ => ∃ (b o t : Int), vs = [.int b, .bl false, .int o, .int t] ∧ Q (((mval b o t).map V.int).getD .non) H
theorem ok_merged_value (F : FnP K "merged_value" "merged_value" s_merged_value f fd) : FnOk P w K mg base CX0 1 f fd ["origin", "is_open", "one", "two"] sp_merged_value := by
  refine okN F sc_merged_value (fun vs H Q E h => ?_) (fun cdv A outer s H vs Q E hr h => ?_)
  · obtain ⟨_, _, _, rfl, _⟩ := h
    rfl
  obtain ⟨b, o, t, rfl, hQ⟩ := h
  refine ⟨_, pss_cons (ps_if (pt_cmpR op_eq (pv 2) (pv 3) (nomark _))
     (pss_one (ps_ret (pv 2)))
     pss_nil)
    (pss_cons (ps_if (pt_val (pv 1))
     (pss_one (ps_ret pe_non))
     pss_nil)
    (pss_cons (ps_if (pt_cmpR op_eq (pv 2) (pv 0) (nomark _))
     (pss_one (ps_ret (pv 3)))
     pss_nil)
    (pss_cons (ps_if (pt_cmpR op_eq (pv 3) (pv 0) (nomark _))
     (pss_one (ps_ret (pv 2)))
     pss_nil)
    (pss_one (ps_ret pe_non))))), ?_⟩
  unfold mval at hQ
  refine ⟨_, rfl, _, rfl, rfl, _, rfl, ?_⟩
  rw [dec_int]
  refine ite2 (fun h1 => ?_) (fun h1 => ?_)
  · rw [if_pos (by simpa using h1)] at hQ
    exact ⟨_, rfl, hQ⟩
  rw [if_neg (by simpa using h1)] at hQ
  refine ⟨_, rfl, _, rfl, iteF ?_⟩
  refine ⟨_, rfl, _, rfl, rfl, _, rfl, ?_⟩
  rw [dec_int]
  refine ite2 (fun h1 => ?_) (fun h1 => ?_)
  · rw [if_pos (by simpa using h1)] at hQ
    exact ⟨_, rfl, hQ⟩
  rw [if_neg (by simpa using h1)] at hQ
  refine ⟨_, rfl, _, rfl, rfl, _, rfl, ?_⟩
  rw [dec_int]
  refine ite2 (fun h1 => ?_) (fun h1 => ?_)
  · rw [if_pos (by simpa using h1)] at hQ
    exact ⟨_, rfl, hQ⟩
  rw [if_neg (by simpa using h1)] at hQ
  exact hQ
/-! ### ascending -/
def sp_ascending (K : PySem.W.Frag) : Sp := fun vs H Q _ => ∃ (a : Addr) (ns : List Int), vs = [.ref a] ∧ (SqL K H a (ns.map V.int) ∨ SqT K H a (ns.map V.int)) ∧ ns.length < 64 ∧
  ∀ (ks : List Int) (p : Addr) (H' : Hp), ks.Pairwise (· < ·) → (∀ k, k ∈ ks ↔ k ∈ ns) → Same H H' → H p = none → Ls H' p ks → Q (.ref p) H'
theorem ok_ascending (F : FnP K "ascending" "ascending" s_ascending f fd) (B : BT mg) : FnOk P w K mg base CX0 1 f fd ["numbers"] (sp_ascending K) := by
  refine okN F sc_ascending (fun vs H Q E h => ?_) (fun cdv A outer s H vs Q E hr h => ?_)
  · obtain ⟨_, _, rfl, _⟩ := h
    rfl
  obtain ⟨a, ns, rfl, hS, hl, hQ⟩ := h
  refine ⟨_, pss_one (ps_ret (pe_callB (cr_sortedSet rfl) (by rfl) B.sorted (by decide +kernel) (pa_cons (pe_callTy (call_set_seq rfl) (by rfl) B.set (by decide +kernel) (pa_cons (pv 0) pa_nil)) pa_nil))), ?_⟩
  refine ⟨_, rfl, a, ns, rfl, hS, by omega, fun p c np hc => ?_⟩
  refine ⟨p, _, c, rfl, upd_same, by omega, fun ks q pw hm _ nq => ?_⟩
  have s1 : Same H (upd H p (SetO w p (fun j => decide (j ∈ ns)) c)) := same_upd np
  have s2 := same_upd (o := .lst (ks.map V.int)) nq
  exact hQ ks q _ pw (fun k => by rw [hm]; simp) (s1.trans s2) (s1.free nq) upd_same
end
end K80
end
section
set_option maxHeartbeats 4000000
namespace K80
open PySem PySem.Spec PyProof.Rows L2 Inf
theorem cut_to (xs : List V) (i : Nat) : cutV xs none (some (i : Int)) = xs.take i := by
  unfold cutV
  rw [HT.sIx_none, HT.sIx_nat]
  simp [List.take_eq_take_iff]
theorem cut_from (xs : List V) (i : Nat) : cutV xs (some (i : Int)) none = xs.drop i := by
  unfold cutV
  rw [HT.sIx_none, HT.sIx_nat]
  by_cases h : i ≤ xs.length
  · rw [Nat.min_eq_left h]
    apply List.take_of_length_le
    simp
  · rw [Nat.min_eq_right (by omega)]
    rw [List.drop_of_length_le (Nat.le_refl _), List.drop_of_length_le (by omega)]
    simp
section
variable {P : Program} {w : World} {K : PySem.W.Frag} {mg : Str → Option Value} {base : Heap} {f : Addr} {fd : FuncData}
/-! ### first_repeated -/
def Apart (xs : List V) : Prop := ∀ (i j : Nat) (x y : V), i < j → xs[i]? = some x → xs[j]? = some y → eqV x y = false
def sp_first_repeated (K : PySem.W.Frag) : Sp := fun vs H Q _ => ∃ (a : Addr) (xs : List V), vs = [.ref a] ∧ SqL K H a xs ∧ xs.all flatV = true ∧ Apart xs ∧ ∀ H', Same H H' → Q (.int (-1)) H'
theorem ok_first_repeated (F : FnP K "first_repeated" "first_repeated" s_first_repeated f fd) (B : BT mg) : FnOk P w K mg base CX0 1 f fd ["entries"] (sp_first_repeated K) := by
  refine okN F sc_first_repeated (fun vs H Q E h => ?_) (fun cdv A outer s H vs Q E hr h => ?_)
  · obtain ⟨_, _, rfl, _⟩ := h
    rfl
  obtain ⟨a, xs, rfl, hS, hf, hA, hQ⟩ := h
  refine ⟨_, pss_cons (ps_for PassesOwn.never rfl (pi_enum rfl B.enumerate (pa_cons (pv 0) pa_nil)) (pg_tup rfl (pgs_cons (pg_name (i := 1) sc_first_repeated.nd rfl (Or.inl rfl)) (pgs_cons (pg_name (i := 2) sc_first_repeated.nd rfl (Or.inl rfl)) pgs_nil)))
     (pss_one (ps_if (pt_cmpR op_in_seq (pv 2) (pe_slice sl_list (pv 0) po_none (po_some (pv 1))) (by rfl))
      (pss_one (ps_ret (pv 1)))
      pss_nil)))
    (pss_one (ps_ret (pe_un un_neg pe_int))), ?_⟩
  refine ⟨_, rfl, a, xs, rfl, hS, ?_⟩
  refine for_it walk_enum (fun i σ H' => (∃ x y, σ = [some (.ref a), x, y]) ∧ Same H H') ⟨⟨_, _, rfl⟩, Same.refl _⟩ (fun i σ H' _ p => p.2.seq hS) ?_ ?_
  · rintro i x σ H1 H2 hi ⟨⟨x0, y0, rfl⟩, hs⟩ ⟨T, u, v, rfl, nT, rfl, hu, hv⟩
    cases hu
    refine ⟨T, _, rfl, SqT.of upd_same, rfl, _, _, rfl, _, _, rfl, rfl, ?_⟩
    have s2 : Same H (upd H1 T (.tup [.int (i : Nat), v])) := hs.trans (same_upd nT)
    refine ⟨_, rfl, _, rfl, _, rfl, _, rfl, a, xs, rfl, s2.seq hS, fun p np => ?_⟩
    rw [cut_to]
    refine ⟨p, _, rfl, .inl (SqL.of upd_same), ?_, ?_, ?_⟩
    · exact List.all_eq_true.mp hf v (List.mem_of_getElem? hv)
    · exact List.all_eq_true.mpr fun y hy => List.all_eq_true.mp hf y (List.mem_of_mem_take hy)
    · have e : inV v (xs.take i) = false := by
        rw [Bool.eq_false_iff]
        intro h
        obtain ⟨y, hy, e⟩ := List.any_eq_true.mp h
        obtain ⟨j, hj⟩ := List.mem_iff_getElem?.mp hy
        have hji : j < i := by
          have := (List.getElem?_eq_some_iff.mp hj).1
          simp at this
          omega
        rw [List.getElem?_take_of_lt hji] at hj
        rw [hA j i y v hji hj hv] at e
        cases e
      rw [e]
      exact ⟨_, rfl, iteF ⟨⟨_, _, rfl⟩, s2.trans (same_upd np)⟩⟩
  · rintro σ H1 ⟨⟨x0, y0, rfl⟩, hs⟩
    exact ⟨_, rfl, hQ _ hs⟩
/-! ### distinct -/
def sp_distinct (K : PySem.W.Frag) : Sp := fun vs H Q _ => ∃ (a : Addr) (xs : List V), vs = [.ref a] ∧ SqL K H a xs ∧ xs.all flatV = true ∧ Apart xs ∧ ∀ p H', Same H H' → H p = none → H' p = some (.tup xs) → Q (.ref p) H'
theorem ok_distinct (F : FnP K "distinct" "distinct" s_distinct f fd) (B : BT mg) (G_first_repeated : Has P w K mg base CX0 1 "first_repeated" (sp_first_repeated K)) : FnOk P w K mg base CX0 2 f fd ["places"] (sp_distinct K) := by
  refine okN F sc_distinct (fun vs H Q E h => ?_) (fun cdv A outer s H vs Q E hr h => ?_)
  · obtain ⟨_, _, rfl, _⟩ := h
    rfl
  obtain ⟨a, xs, rfl, hS, hf, hA, hQ⟩ := h
  refine ⟨_, pss_cons (ps_set (i := 1) sc_distinct.nd rfl (.inl rfl) (pe_c G_first_repeated hr (pa_cons (pv 0) pa_nil)))
    (pss_cons (ps_if (pt_cmpR op_ge (pv 1) pe_int (nomark _))
     (pss_one ps_never)
     pss_nil)
    (pss_one (ps_ret (pe_callTy call_tuple_of (by rfl) B.tuple (by decide +kernel) (pa_cons (pv 0) pa_nil))))), ?_⟩
  refine ⟨_, rfl, a, xs, rfl, hS, hf, hA, fun H' hs => ?_⟩
  refine ⟨_, rfl, _, _, rfl, rfl, _, rfl, iteF ?_⟩
  refine ⟨_, rfl, a, xs, rfl, .inl ⟨hs.seq hS, fun p np => ?_⟩⟩
  exact hQ p _ (hs.trans (same_upd np)) (hs.free np) upd_same
/-! ### arrange -/
def gv (kvs : List (Int × Int)) (k : Int) : Int := (get kvs k).getD 0
/-- the entries of the items i+1 .. i+n -/
def arrF (kvs : List (Int × Int)) (n : Nat) : List (Int × (Int × Int)) := (List.range n).filterMap fun (j : Nat) => if 0 < gv kvs (2 * (1 + (j : Int))) then some (gv kvs (2 * (1 + (j : Int))), (1 + (j : Int), gv kvs (2 * (1 + (j : Int)) + 1))) else none
theorem arrF_succ (kvs : List (Int × Int)) (n : Nat) : arrF kvs (n + 1) = arrF kvs n ++ (if 0 < gv kvs (2 * (1 + (n : Int))) then [(gv kvs (2 * (1 + (n : Int))), (1 + (n : Int), gv kvs (2 * (1 + (n : Int)) + 1)))] else []) := by
  unfold arrF
  rw [List.range_succ, List.filterMap_append]
  congr 1
  simp only [List.filterMap_cons, List.filterMap_nil]
  split <;> split <;> simp_all
theorem arrF_len (kvs : List (Int × Int)) (n : Nat) : (arrF kvs n).length ≤ n := by
  have := List.length_filterMap_le (fun (j : Nat) => if 0 < gv kvs (2 * (1 + (j : Int))) then some (gv kvs (2 * (1 + (j : Int))), (1 + (j : Int), gv kvs (2 * (1 + (j : Int)) + 1))) else none) (List.range n)
  rw [List.length_range] at this
  exact this
theorem arrF_sub (kvs : List (Int × Int)) {i n : Nat} (h : i ≤ n) : (arrF kvs i).Sublist (arrF kvs n) := by
  induction n with
  | zero => rw [show i = 0 from by omega]; exact List.Sublist.refl _
  | succ n ih =>
    by_cases e : i = n + 1
    · rw [e]; exact List.Sublist.refl _
    · rw [arrF_succ]
      exact (ih (by omega)).trans (List.sublist_append_left _ _)
def sp_arrange (K : PySem.W.Frag) : Sp := fun vs H Q _ => ∃ (a : Addr) (kvs : List (Int × Int)) (n : Nat), vs = [.ref a, .int n] ∧ Bk H a kvs ∧ n ≤ 1000 ∧ ((arrF kvs n).map (·.1)).Nodup ∧ ∀ p H', Same H H' → H p = none → Ar H' p (arrF kvs n) → Q (.ref p) H'
theorem ok_arrange (F : FnP K "arrange" "arrange" s_arrange f fd) (B : BT mg) (G_value_at : Has P w K mg base CX0 1 "value_at" (sp_value_at K)) (G_position_place : Has P w K mg base CX0 1 "position_place" sp_position_place) (G_content_place : Has P w K mg base CX0 1 "content_place" sp_content_place) :
    FnOk P w K mg base CX0 2 f fd ["book", "count"] (sp_arrange K) := by
  refine okN F sc_arrange (fun vs H Q E h => ?_) (fun cdv A outer s H vs Q E hr h => ?_)
  · obtain ⟨_, _, _, rfl, _⟩ := h
    rfl
  obtain ⟨a, kvs, n, rfl, hB, hn, nd, hQ⟩ := h
  have hu := hu_of hr
  refine ⟨_, pss_cons (ps_set (i := 2) sc_arrange.nd rfl (.inl rfl) pe_dnewK)
    (pss_cons (ps_for PassesOwn.never rfl (pi_range2 rfl B.range (pa_cons pe_int (pa_cons (pe_op op_add (pv 1) pe_int) pa_nil))) (pg_name (i := 3) sc_arrange.nd rfl (Or.inl rfl))
     (pss_cons (ps_set (i := 4) sc_arrange.nd rfl (.inl rfl) (pe_c G_value_at hr (pa_cons (pv 0) (pa_cons (pe_c G_position_place hr (pa_cons (pv 3) pa_nil)) pa_nil))))
     (pss_one (ps_if (pt_cmpR op_gt (pv 4) pe_int (nomark _))
      (pss_one (ps_dput hu (pv 2) (pv 4) (pe_tup (pa_cons (pv 3) (pa_cons (pe_c G_value_at hr (pa_cons (pv 0) (pa_cons (pe_c G_content_place hr (pa_cons (pv 3) pa_nil)) pa_nil))) pa_nil))) rfl))
      pss_nil))))
    (pss_one (ps_ret (pv 2)))), ?_⟩
  intro D nD
  refine ⟨_, rfl, _, _, rfl, rfl, _, _, rfl, ⟨by decide, by decide, by omega, by omega⟩, ?_⟩
  rw [show ((n : Int) + 1 - 1).toNat = n from by omega]
  have hD : Same H (upd H D (.dK [])) := same_upd nD
  refine for_it walk_range (fun i σ H' => (∃ x y, σ = [some (.ref a), some (.int n), some (.ref D), x, y]) ∧ Same H H' ∧ Ar H' D (arrF kvs i)) ⟨⟨_, _, rfl⟩, hD, _, upd_same, .nil⟩ (fun _ _ _ _ _ => True.intro) ?_ ?_
  · rintro i x σ H1 H2 hi ⟨⟨x0, y0, rfl⟩, hs, ks, hk, hp⟩ ⟨rfl, rfl⟩
    refine ⟨_, rfl, _, rfl, _, rfl, _, kvs, _, rfl, hs _ _ hB, ?_⟩
    refine ⟨_, rfl, _, _, rfl, rfl, _, rfl, ?_⟩
    have e := arrF_succ kvs i
    refine ite2 (fun h0 => ?_) (fun h0 => ?_)
    · have h0' : 0 < gv kvs (2 * (1 + (i : Int))) := by simpa [gv] using h0
      rw [if_pos h0'] at e
      refine ⟨_, rfl, _, rfl, _, rfl, _, rfl, _, kvs, _, rfl, hs _ _ hB, szr, fun t nt => ?_⟩
      have g0 : get (arrF kvs i) (gv kvs (2 * (1 + (i : Int)))) = none := by
        rw [get_none]
        intro m
        have nd' : ((arrF kvs (i + 1)).map (·.1)).Nodup := List.Sublist.nodup (List.Sublist.map _ (arrF_sub kvs hi)) nd
        rw [e, List.map_append, List.nodup_append] at nd'
        exact nd'.2.2 _ m _ (by simp) rfl
      have nDt : D ≠ t := fun z => by rw [← z, hk] at nt; cases nt
      have s2 := same_upd (o := .tup [.int (1 + (i : Int)), .int (gv kvs (2 * (1 + (i : Int)) + 1))]) nt
      have hl := arrF_len kvs i
      refine ⟨_, rfl, _, rfl, D, _, rfl, DPut.k (k := .inl (gv kvs (2 * (1 + (i : Int))))) (kvs := ks) (s2 _ _ hk) (szl (by rw [Paired.length hp]; omega)), ⟨_, _, rfl⟩, same_put (hs.trans s2) nD, ?_⟩
      rw [e]
      exact Ar.add (s2 _ _ hk) (paired_mono (fun _ _ r => r.same s2) hp) g0 upd_same
    · have h0' : ¬ 0 < gv kvs (2 * (1 + (i : Int))) := by simpa [gv] using h0
      rw [if_neg h0', List.append_nil] at e
      exact ⟨⟨_, _, rfl⟩, hs, by rw [e]; exact ⟨ks, hk, hp⟩⟩
  · rintro σ H1 ⟨⟨x0, y0, rfl⟩, hs, ha⟩
    exact ⟨_, rfl, hQ D _ hs nD ha⟩
end
end K80
end
section
set_option maxHeartbeats 4000000
namespace K80
open PySem PySem.Spec PyProof.Rows L2 Inf
theorem yes_go {σ : L2.St} {H : Hp} {Q : Bool → Hp → Prop} (h : Q true H) : tYes σ H Q := h
theorem tyL {K : PySem.W.Frag} {H : Hp} {p : Addr} {xs : List V} (h : SqL K H p xs) : tyV K "list" (.ref p) H := .inl ⟨rfl, _, h⟩
theorem take_snoc {α : Type} {l : List α} {i : Nat} {x : α} (h : l[i]? = some x) : l.take (i + 1) = l.take i ++ [x] := by
  rw [List.take_add_one, h]
  rfl
section
variable {P : Program} {w : World} {K : PySem.W.Frag} {mg : Str → Option Value} {base : Heap} {f : Addr} {fd : FuncData}
/-! ### doubled -/
def sp_doubled (K : PySem.W.Frag) : Sp := fun vs H Q _ => ∃ (a : Addr) (l : List (Int × (Int × Int))), vs = [.ref a] ∧ Ar H a l ∧ l.length < 64 ∧
  ∀ (ks : List Int) (p : Addr) (H' : Hp), ks.Pairwise (· < ·) → (∀ k, k ∈ ks ↔ 1 < (l.map (·.2.1)).count k) → Same H H' → H p = none → Ls H' p ks → Q (.ref p) H'
theorem ok_doubled (F : FnP K "doubled" "doubled" s_doubled f fd) (B : BT mg) (G_ascending : Has P w K mg base CX0 1 "ascending" (sp_ascending K)) : FnOk P w K mg base CX0 2 f fd ["arrangement"] (sp_doubled K) := by
  refine okN F sc_doubled (fun vs H Q E h => ?_) (fun cdv A outer s H vs Q E hr h => ?_)
  · obtain ⟨_, _, rfl, _⟩ := h
    rfl
  obtain ⟨a, l, rfl, ⟨ks, hk, hp⟩, hl, hQ⟩ := h
  refine ⟨_, pss_cons (ps_lock (ps_set (i := 1) sc_doubled.nd rfl (.inr rfl) (pe_lc (own := [("entry", 2)]) (g := gName 2) (tt := tYes) rfl sc_doubled.nd (pi_values (pv 0)) (blkOk_by (own := [("entry", 2)]) (N := ["arrangement", "standing", "entry", "item"]) (sc := defScope s_doubled) (by decide +kernel)) (fun _ _ _ _ _ => (pg_name (i := 2) sc_doubled.nd rfl (Or.inl rfl))) (fun _ _ _ _ _ => pts_nil) (fun _ _ _ _ _ => (pe_ix (ixTup K) (pv 2) pe_int (fun _ _ => rfl))))))
    (pss_one (ps_ret (pe_c G_ascending hr (pa_cons (pe_lc (own := [("item", 3)]) (g := gName 3) rfl sc_doubled.nd (pi_list (pv 1)) (blkOk_by (own := [("item", 3)]) (N := ["arrangement", "standing", "entry", "item"]) (sc := defScope s_doubled) (by decide +kernel)) (fun _ _ _ _ _ => (pg_name (i := 3) sc_doubled.nd rfl (Or.inl rfl))) (fun _ _ _ _ _ => (pts_one (pt_cmpR op_gt (peCount K (pv 1) (pa_cons (pv 3) pa_nil)) pe_int (nomark _)))) (fun _ _ _ _ _ => (pv 3))) pa_nil)))), ?_⟩
  have hlen : ks.length = l.length := Paired.length hp
  refine ⟨a, _, hk, True.intro, fun od => ?_⟩
  refine ⟨_, rfl, a, od, ks, rfl, upd_same, fun D nD => ?_⟩
  have nDa : D ≠ a := fun e => by rw [e, upd_same] at nD; cases nD
  have nD0 : H D = none := by rw [upd_ne nDa] at nD; exact nD
  refine lc_it walk_values (fun i H' => Ls H' D ((l.take i).map (·.2.1)) ∧ Same (upd H a (.frz od (.dK ks))) H') ⟨upd_same, same_upd nD⟩ (fun i H' _ p => p.2 _ _ upd_same) ?_ ?_
  · rintro i x H1 H2 hi ⟨h1, hs⟩ ⟨rfl, k, hk2⟩
    obtain ⟨e, he, r1, t, rt, ht⟩ := paired_at hp hk2
    refine ⟨rfl, ?_⟩
    have ht2 : H2 t = some (.tup [.int e.2.1, .int e.2.2]) := hs _ _ (by rw [upd_ne (fun z => by subst z; rw [hk] at ht; cases ht)]; exact ht)
    have rt' : x = V.ref t := rt
    subst rt'
    refine yes_go (iteT ?_)
    refine ⟨_, rfl, _, _, _, _, rfl, rfl, SqT.of ht2, atI_nat (j := 0) (v := .int e.2.1) (by simp), _, h1, szl ?_, ?_, ?_⟩
    · simp
      omega
    · rw [take_snoc he, List.map_append, Ls, upd_same]
      simp
    · exact same_put hs nD
  · rintro H1 ⟨h1, hs⟩
    have hs2 : Same H (upd H1 a (.dK ks)) := same_unlock hk hs
    refine ⟨hs _ _ upd_same, ?_⟩
    rw [hlen, List.take_length] at h1
    have hD1 : Ls (upd H1 a (.dK ks)) D (l.map (·.2.1)) := by rw [Ls, upd_ne nDa]; exact h1
    refine ⟨_, rfl, _, rfl, ⟨_, hD1.sq⟩, fun D2 nD2 => ?_⟩
    have nD2D : D2 ≠ D := fun e => by rw [e, hD1] at nD2; cases nD2
    generalize hHb : upd H1 a (.dK ks) = Hb at hs2 hD1 nD2
    refine lc_it (walk_list (xs := (l.map (·.2.1)).map V.int)) (fun i H' => Ls H' D2 (((l.map (·.2.1)).take i).filter fun k => decide (1 < (l.map (·.2.1)).count k)) ∧ Same Hb H') ⟨upd_same, same_upd nD2⟩ (fun i H' _ p => p.2.seq hD1.sq) ?_ ?_
    · rintro i x H1 H2 hi ⟨h1, hs⟩ ⟨rfl, hx⟩
      rw [List.getElem?_map] at hx
      obtain ⟨z, hz, rfl⟩ := Option.map_eq_some_iff.mp hx
      refine ⟨rfl, ?_⟩
      refine ⟨_, rfl, tyL (hs.seq hD1.sq), _, rfl, D, _, _, rfl, rfl, hs.seq hD1.sq, _, _, rfl, rfl, _, rfl, ?_⟩
      have ts : (l.map (·.2.1)).take (i + 1) = (l.map (·.2.1)).take i ++ [z] := take_snoc hz
      refine ite2 (fun h0 => ?_) (fun h0 => ?_)
      · have h0' : 1 < (l.map (·.2.1)).count z := by have := of_decide_eq_true h0; omega
        refine ⟨_, rfl, _, h1, szl ?_, ?_, same_put hs nD2⟩
        · have := List.length_filter_le (fun k => decide (1 < (l.map (·.2.1)).count k)) ((l.map (·.2.1)).take i)
          simp at this ⊢
          omega
        · rw [ts, List.filter_append, Ls, upd_same]
          simp [h0']
      · have h0' : ¬ 1 < (l.map (·.2.1)).count z := by
          intro h
          apply h0
          apply decide_eq_true
          omega
        refine ⟨?_, hs⟩
        rw [ts, List.filter_append]
        simpa [h0'] using h1
    · rintro H1 ⟨h1, hs⟩
      have e : ((l.map (·.2.1)).map V.int).length = (l.map (·.2.1)).length := by simp
      rw [e, List.take_length] at h1
      refine ⟨D2, _, rfl, .inl h1.sq, ?_, fun ks' p H' pw hm hs' np hL => hQ ks' p H' pw (fun k => ?_) ((hs2.trans hs).trans hs') ((hs2.trans hs).free np) hL⟩
      · have := List.length_filter_le (fun k => decide (1 < (l.map (·.2.1)).count k)) (l.map (·.2.1))
        simp at this ⊢
        omega
      · rw [hm]
        simp only [List.mem_filter, decide_eq_true_eq]
        constructor
        · exact fun h => h.2
        · intro h
          exact ⟨List.count_pos_iff.mp (by omega), h⟩
/-! ### moving, changing -/
def sp_moving : Sp := fun vs H Q _ => ∃ (i p : Int), vs = [.int i, .int p] ∧ ∀ d H', Same H H' → H d = none → Bk H' d [(2 * i, p)] → Q (.ref d) H'
theorem ok_moving (F : FnP K "moving" "moving" s_moving f fd) (G_position_place : Has P w K mg base CX0 1 "position_place" sp_position_place) : FnOk P w K mg base CX0 2 f fd ["item", "position"] sp_moving := by
  refine okN F sc_moving (fun vs H Q E h => ?_) (fun cdv A outer s H vs Q E hr h => ?_)
  · obtain ⟨_, _, rfl, _⟩ := h
    rfl
  obtain ⟨i, p, rfl, hQ⟩ := h
  refine ⟨_, pss_one (ps_ret (pe_disp (pps_cons (pe_c G_position_place hr (pa_cons (pv 0) pa_nil)) (pv 1) pps_nil) (by rfl) (by rfl) (fun z => by cases z) (by decide))), ?_⟩
  intro d nd
  refine ⟨_, rfl, _, rfl, _, rfl, upd_same, [(.inl (2 * i), .int p)], rfl, Nat.le_of_ble_eq_true rfl, ?_⟩
  refine hQ d _ (same_put (same_upd nd) nd) nd ?_
  rw [Bk, upd_same]
  rfl
def sp_changing : Sp := fun vs H Q _ => ∃ (i p : Int), vs = [.int i, .int p] ∧ ∀ d H', Same H H' → H d = none → Bk H' d [(2 * i + 1, p)] → Q (.ref d) H'
theorem ok_changing (F : FnP K "changing" "changing" s_changing f fd) (G_content_place : Has P w K mg base CX0 1 "content_place" sp_content_place) : FnOk P w K mg base CX0 2 f fd ["item", "content"] sp_changing := by
  refine okN F sc_changing (fun vs H Q E h => ?_) (fun cdv A outer s H vs Q E hr h => ?_)
  · obtain ⟨_, _, rfl, _⟩ := h
    rfl
  obtain ⟨i, p, rfl, hQ⟩ := h
  refine ⟨_, pss_one (ps_ret (pe_disp (pps_cons (pe_c G_content_place hr (pa_cons (pv 0) pa_nil)) (pv 1) pps_nil) (by rfl) (by rfl) (fun z => by cases z) (by decide))), ?_⟩
  intro d nd
  refine ⟨_, rfl, _, rfl, _, rfl, upd_same, [(.inl (2 * i + 1), .int p)], rfl, Nat.le_of_ble_eq_true rfl, ?_⟩
  refine hQ d _ (same_put (same_upd nd) nd) nd ?_
  rw [Bk, upd_same]
  rfl
end
end K80
end
section
set_option maxHeartbeats 4000000
namespace K80
open PySem PySem.Spec PyProof.Rows L2 Inf
abbrev Bar := (Int × Int) × (Int × Int)
def mkD (p : Int × Int) : PyData := .tuple [.int p.1, .int p.2]
def barD (b : Bar) : PyData := .tuple [mkD b.1, mkD b.2]
def Br (H : Hp) (x : V) (b : Bar) : Prop := ∃ t x1 x2, x = .ref t ∧ H t = some (.tup [x1, x2]) ∧ Mk2 H x1 b.1 ∧ Mk2 H x2 b.2
theorem Br.same {H H' : Hp} (e : Same H H') {x : V} {b : Bar} (h : Br H x b) : Br H' x b := let ⟨t, x1, x2, a, c, d, f⟩ := h; ⟨t, x1, x2, a, e _ _ c, d.same e, f.same e⟩
theorem Mk2.dp {K : PySem.W.Frag} {H : Hp} {x : V} {p : Int × Int} (h : Mk2 H x p) : Dp K H x (mkD p) := by
  obtain ⟨t, rfl, e⟩ := h
  exact .tup (SqT.of e) (.cons (.int _) (.cons (.int _) .nil))
theorem Br.dp {K : PySem.W.Frag} {H : Hp} {x : V} {b : Bar} (h : Br H x b) : Dp K H x (barD b) := by
  obtain ⟨t, x1, x2, rfl, e, h1, h2⟩ := h
  exact .tup (SqT.of e) (.cons h1.dp (.cons h2.dp .nil))
theorem barD_shaped (b : Bar) : SeqAt.shaped (barD b) = true := by
  simp only [SeqAt.shaped, barD, mkD, PyData.canLay0, PyData.canLayAll0, PyData.depth, PyData.depthAll, Bool.and_true, Bool.true_and, decide_eq_true_eq]
  omega
theorem barD_eqv (b c : Bar) : PyData.eqv (barD b) (barD c) = decide (b = c) := by
  obtain ⟨⟨a1, a2⟩, a3, a4⟩ := b
  obtain ⟨⟨b1, b2⟩, b3, b4⟩ := c
  simp only [barD, mkD, PyData.eqv, PyData.eqvAll, Bool.and_true]
  rw [Bool.eq_iff_iff]
  simp [and_assoc]
theorem mkD_depth (p : Int × Int) : (mkD p).depth ≤ 40 := by
  simp only [mkD, PyData.depth, PyData.depthAll]
  omega
theorem marks_alike {ds : List PyData} {ps : List (Int × Int)} (h : ds = ps.map mkD) : PySem.W.AllAlike ds := by
  subst h
  intro d hd e he
  obtain ⟨p, _, rfl⟩ := List.mem_map.mp hd
  obtain ⟨q, _, rfl⟩ := List.mem_map.mp he
  simp [mkD, PySem.W.alike, PySem.W.alikeAll]
theorem marks_sortable {ds : List PyData} {ps : List (Int × Int)} (h : ds = ps.map mkD) : PySem.W.Sortable ds := by
  subst h
  refine .inl fun d hd => ?_
  obtain ⟨p, _, rfl⟩ := List.mem_map.mp hd
  exact ⟨_, _, rfl⟩
def rowD (b : Bar) : PyData := .tuple [.int 2, barD b]
theorem rowD_depth (b : Bar) : (rowD b).depth ≤ 40 := by
  simp only [rowD, barD, mkD, PyData.depth, PyData.depthAll]
  omega
theorem rows_alike {ds : List PyData} {bs : List Bar} (h : ds = bs.map rowD) : PySem.W.AllAlike ds := by
  subst h
  intro d hd e he
  obtain ⟨p, _, rfl⟩ := List.mem_map.mp hd
  obtain ⟨q, _, rfl⟩ := List.mem_map.mp he
  simp [rowD, barD, mkD, PySem.W.alike, PySem.W.alikeAll]
theorem rows_sortable {ds : List PyData} {bs : List Bar} (h : ds = bs.map rowD) : PySem.W.Sortable ds := by
  subst h
  refine .inl fun d hd => ?_
  obtain ⟨p, _, rfl⟩ := List.mem_map.mp hd
  exact ⟨_, _, rfl⟩
def Brs (H : Hp) (a : Addr) (bs : List Bar) : Prop := ∃ xs, H a = some (.lst xs) ∧ Paired (Br H) xs bs
theorem Brs.same {H H' : Hp} (e : Same H H') {a : Addr} {bs : List Bar} (h : Brs H a bs) : Brs H' a bs := let ⟨xs, x, y⟩ := h; ⟨xs, e _ _ x, paired_mono (fun _ _ r => r.same e) y⟩
section
variable {P : Program} {w : World} {K : PySem.W.Frag} {mg : Str → Option Value} {base : Heap} {f : Addr} {fd : FuncData}
/-! ### filled_marks -/
def sp_filled_marks (K : PySem.W.Frag) : Sp := fun vs H Q _ => ∃ (a b : Addr) (kvs : List (Int × Int)) (ps : List Int), vs = [.ref a, .ref b] ∧ Bk H a kvs ∧ SqT K H b (ps.map V.int) ∧ ps.Pairwise (· < ·) ∧ ps.length < 64 ∧
  ∀ p H', Same H H' → H p = none → Ms H' p ((ps.filter fun k => decide (0 < gv kvs k)).map fun k => (k, gv kvs k)) → Q (.ref p) H'
theorem strict_ext : ∀ {l m : List Int}, l.Pairwise (· < ·) → m.Pairwise (· < ·) → (∀ k, k ∈ l ↔ k ∈ m) → l = m
  | [], [], _, _, _ => rfl
  | [], y :: m, _, _, h => absurd ((h y).mpr List.mem_cons_self) (by simp)
  | x :: l, [], _, _, h => absurd ((h x).mp List.mem_cons_self) (by simp)
  | x :: l, y :: m, hl, hm, h => by
    have l1 := List.pairwise_cons.mp hl
    have m1 := List.pairwise_cons.mp hm
    have e : x = y := by
      have a := (h x).mp List.mem_cons_self
      have b := (h y).mpr List.mem_cons_self
      rcases List.mem_cons.mp a with a | a
      · exact a
      · rcases List.mem_cons.mp b with b | b
        · exact b.symm
        · have := m1.1 x a
          have := l1.1 y b
          omega
    subst e
    rw [strict_ext l1.2 m1.2 fun k => ?_]
    constructor
    · intro hk
      have := (h k).mp (List.mem_cons_of_mem _ hk)
      rcases List.mem_cons.mp this with e | e
      · subst e
        exact absurd (l1.1 k hk) (Int.lt_irrefl k)
      · exact e
    · intro hk
      have := (h k).mpr (List.mem_cons_of_mem _ hk)
      rcases List.mem_cons.mp this with e | e
      · subst e
        exact absurd (m1.1 k hk) (Int.lt_irrefl k)
      · exact e
theorem ok_filled_marks (F : FnP K "filled_marks" "filled_marks" s_filled_marks f fd) (B : BT mg) (G_ascending : Has P w K mg base CX0 1 "ascending" (sp_ascending K)) (G_value_at : Has P w K mg base CX0 1 "value_at" (sp_value_at K)) :
    FnOk P w K mg base CX0 2 f fd ["book", "places"] (sp_filled_marks K) := by
  refine okN F sc_filled_marks (fun vs H Q E h => ?_) (fun cdv A outer s H vs Q E hr h => ?_)
  · obtain ⟨_, _, _, _, rfl, _⟩ := h
    rfl
  obtain ⟨a, b, kvs, ps, rfl, hB, hS, pw, hl, hQ⟩ := h
  refine ⟨_, pss_one (ps_ret (pe_lc (own := [("place", 2)]) (g := gName 2) rfl sc_filled_marks.nd (pi_list (pe_c G_ascending hr (pa_cons (pv 1) pa_nil))) (blkOk_by (own := [("place", 2)]) (N := ["book", "places", "place"]) (sc := defScope s_filled_marks) (by decide +kernel)) (fun _ _ _ _ _ => (pg_name (i := 2) sc_filled_marks.nd rfl (Or.inl rfl))) (fun _ _ _ _ _ => (pts_one (pt_cmpR op_gt (pe_c G_value_at hr (pa_cons (pv 0) (pa_cons (pv 2) pa_nil))) pe_int (nomark _)))) (fun _ _ _ _ _ => (pe_tup (pa_cons (pv 2) (pa_cons (pe_c G_value_at hr (pa_cons (pv 0) (pa_cons (pv 2) pa_nil))) pa_nil)))))), ?_⟩
  refine ⟨_, rfl, b, ps, rfl, .inr hS, hl, fun ks p H1 pk hm hs np hL => ?_⟩
  obtain rfl : ks = ps := strict_ext pk pw hm
  refine ⟨p, rfl, ⟨_, hL.sq⟩, fun D nD => ?_⟩
  refine lc_it (walk_list (xs := ks.map V.int)) (fun i H' => Ms H' D (((ks.take i).filter fun k => decide (0 < gv kvs k)).map fun k => (k, gv kvs k)) ∧ Same H1 H') ⟨⟨_, upd_same, .nil⟩, same_upd nD⟩ (fun i H' _ p => p.2.seq hL.sq) ?_ ?_
  · rintro i x H2 H3 hi ⟨⟨xs, hx, hp⟩, h2⟩ ⟨rfl, hk⟩
    rw [List.getElem?_map] at hk
    obtain ⟨z, hz, rfl⟩ := Option.map_eq_some_iff.mp hk
    have hB2 : Bk H3 a kvs := h2 _ _ (hs _ _ hB)
    refine ⟨rfl, ?_⟩
    refine ⟨_, rfl, _, rfl, _, kvs, _, rfl, hB2, _, _, rfl, rfl, _, rfl, ?_⟩
    have ts : ks.take (i + 1) = ks.take i ++ [z] := take_snoc hz
    refine ite2 (fun h0 => ?_) (fun h0 => ?_)
    · have h0' : 0 < gv kvs z := by simpa [gv] using h0
      refine ⟨_, rfl, _, rfl, _, rfl, _, kvs, _, rfl, hB2, szr, fun t nt => ?_⟩
      have s3 := same_upd (o := .tup [.int z, .int (gv kvs z)]) nt
      refine ⟨xs, s3 _ _ hx, szl ?_, ⟨_, upd_same, ?_⟩, same_put (h2.trans s3) nD⟩
      · rw [Paired.length hp]
        have := List.length_filter_le (fun k => decide (0 < gv kvs k)) (ks.take i)
        simp at this ⊢
        omega
      · rw [ts, List.filter_append, List.map_append]
        have e : [z].filter (fun k => decide (0 < gv kvs k)) = [z] := by simp [h0']
        rw [e]
        refine paired_snoc (paired_mono (fun _ _ r => (r.same s3).put (s3 _ _ hx) (fun _ z => nomatch z)) hp) ⟨t, rfl, ?_⟩
        rw [upd_ne (fun e => by subst e; rw [hx] at nt; cases nt)]
        exact upd_same
    · have h0' : ¬ 0 < gv kvs z := by simpa [gv] using h0
      refine ⟨⟨xs, hx, ?_⟩, h2⟩
      rw [ts, List.filter_append]
      have e : [z].filter (fun k => decide (0 < gv kvs k)) = [] := by simp [h0']
      rw [e, List.append_nil]
      exact hp
  · rintro H2 ⟨h1, h2⟩
    have e : (ks.map V.int).length = ks.length := by simp
    rw [e, List.take_length] at h1
    exact hQ D H2 (hs.trans h2) (hs.free nD) h1
/-! ### bar_of -/
def sp_bar_of (K : PySem.W.Frag) : Sp := fun vs H Q _ => ∃ (a : Addr) (x y : V) (p q : Int × Int), vs = [.ref a] ∧ H a = some (.lst [x, y]) ∧ Mk2 H x p ∧ Mk2 H y q ∧ p.1 ≠ q.1 ∧
  ∀ t H', Same H H' → H t = none → H' t = some (.tup (if p.1 < q.1 then [x, y] else [y, x])) → Q (.ref t) H'
theorem sort_two {α : Type} {le : α → α → Bool} {a b : α} (h : le b a = true) (h' : le a b = false) : [a, b].mergeSort le = [b, a] := by
  simp [List.mergeSort, List.MergeSort.Internal.splitInTwo, List.merge, h']
theorem ok_bar_of (F : FnP K "bar_of" "bar_of" s_bar_of f fd) (B : BT mg) : FnOk P w K mg base CX0 1 f fd ["marks"] (sp_bar_of K) := by
  refine okN F sc_bar_of (fun vs H Q E h => ?_) (fun cdv A outer s H vs Q E hr h => ?_)
  · obtain ⟨_, _, _, _, _, rfl, _⟩ := h
    rfl
  obtain ⟨a, x, y, p, q, rfl, hL, hx, hy, ne, hQ⟩ := h
  refine ⟨_, pss_one (ps_ret (pe_callTy call_tuple_of (by rfl) B.tuple (by decide +kernel) (pa_cons (pe_callB (cr_sortD hr.units) (by rfl) B.sorted (by decide +kernel) (pa_cons (pv 0) pa_nil)) pa_nil))), ?_⟩
  refine ⟨_, rfl, a, [(x, mkD p), (y, mkD q)], rfl, SqL.of hL, ?_, ?_, ?_, fun d nd => ?_⟩
  · intro z hz
    rcases List.mem_cons.mp hz with rfl | hz
    · exact ⟨hx.dp, mkD_depth p⟩
    · rcases List.mem_cons.mp hz with rfl | hz
      · exact ⟨hy.dp, mkD_depth q⟩
      · cases hz
  · refine marks_alike (ps := [p, q]) ?_
    simp
  · refine marks_sortable (ps := [p, q]) ?_
    simp
  · have s1 := same_upd (o := .lst ((List.mergeSort [(x, mkD p), (y, mkD q)] (PySem.W.dataLe false (·.2))).map (·.1))) nd
    refine ⟨d, _, rfl, .inl ⟨SqL.of upd_same, fun t nt => ?_⟩⟩
    refine hQ t _ (s1.trans (same_upd nt)) (s1.free nt) ?_
    rw [upd_same]
    by_cases lt : p.1 < q.1
    · have l1 : PySem.W.dataLe false (fun z : V × PyData => z.2) (x, mkD p) (y, mkD q) = true := (le_2marks p.1 p.2 q.1 q.2).mpr (.inl lt)
      rw [if_pos lt, sort_sorted (List.pairwise_cons.mpr ⟨fun z hz => (List.mem_cons.mp hz).elim (fun e => by rw [e]; exact l1) (fun h => by cases h), List.pairwise_singleton _ _⟩)]
      rfl
    · have gt : q.1 < p.1 := by omega
      have l1 : PySem.W.dataLe false (fun z : V × PyData => z.2) (y, mkD q) (x, mkD p) = true := (le_2marks q.1 q.2 p.1 p.2).mpr (.inl gt)
      have l2 : PySem.W.dataLe false (fun z : V × PyData => z.2) (x, mkD p) (y, mkD q) = false := by
        rw [Bool.eq_false_iff]
        intro h
        have := (le_2marks p.1 p.2 q.1 q.2).mp h
        omega
      rw [if_neg lt, sort_two l1 l2]
      rfl
/-! ### bars_in_order -/
/-- one bar below another -/
def ltB (b c : Bar) : Prop := b.1.1 < c.1.1
def sp_bars_in_order (K : PySem.W.Frag) : Sp := fun vs H Q _ => ∃ (a : Addr) (bs : List Bar), vs = [.ref a] ∧ Brs H a bs ∧ bs.Pairwise ltB ∧ bs.length ≤ 1000 ∧ ∀ t H', Same H H' → H t = none → Brs H' t bs → Q (.ref t) H'
/-- pairs (2, bar) -/
def Pr (H : Hp) (x : V) (b : Bar) : Prop := ∃ t y, x = .ref t ∧ H t = some (.tup [.int 2, y]) ∧ Br H y b
theorem Pr.same {H H' : Hp} (e : Same H H') {x : V} {b : Bar} (h : Pr H x b) : Pr H' x b := let ⟨t, y, a, c, d⟩ := h; ⟨t, y, a, e _ _ c, d.same e⟩
theorem Br.put {H : Hp} {D : Addr} {o u : HO} (hD : H D = some o) (hn : ∀ xs, o ≠ .tup xs) {x : V} {b : Bar} (h : Br H x b) : Br (upd H D u) x b := by
  obtain ⟨t, x1, x2, a, z, h1, h2⟩ := h
  refine ⟨t, x1, x2, a, ?_, h1.put hD hn, h2.put hD hn⟩
  rw [upd_ne (fun e => by subst e; rw [hD] at z; exact hn _ (Option.some.inj z))]
  exact z
theorem Pr.put {H : Hp} {D : Addr} {o u : HO} (hD : H D = some o) (hn : ∀ xs, o ≠ .tup xs) {x : V} {b : Bar} (h : Pr H x b) : Pr (upd H D u) x b := by
  obtain ⟨t, y, a, z, h1⟩ := h
  refine ⟨t, y, a, ?_, h1.put hD hn⟩
  rw [upd_ne (fun e => by subst e; rw [hD] at z; exact hn _ (Option.some.inj z))]
  exact z
theorem Pr.dp {H : Hp} {x : V} {b : Bar} (h : Pr H x b) : Dp K H x (rowD b) := by
  obtain ⟨t, y, rfl, e, h1⟩ := h
  exact .tup (SqT.of e) (.cons (.int _) (.cons h1.dp .nil))
theorem zip_pr {H : Hp} {xs : List V} {bs : List Bar} (p : Paired (Pr H) xs bs) : (xs.zip (bs.map rowD)).map (·.1) = xs ∧ (xs.zip (bs.map rowD)).map (·.2) = bs.map rowD ∧ ∀ q ∈ xs.zip (bs.map rowD), ∃ b ∈ bs, Pr H q.1 b ∧ q.2 = rowD b := by
  induction p with
  | nil => exact ⟨rfl, rfl, fun q h => by cases h⟩
  | @cons x b xs bs h _ ih =>
    obtain ⟨i1, i2, i3⟩ := ih
    refine ⟨by simp [i1], by simp [i2], fun q hq => ?_⟩
    rcases List.mem_cons.mp (by simpa using hq) with rfl | hq
    · exact ⟨b, List.mem_cons_self, h, rfl⟩
    · obtain ⟨c, hc, z⟩ := i3 q hq
      exact ⟨c, List.mem_cons_of_mem _ hc, z⟩
theorem pairwise_zip {xs : List V} : ∀ {bs : List Bar}, bs.Pairwise ltB → (xs.zip (bs.map rowD)).Pairwise fun a b => PySem.W.dataLe false (fun z : V × PyData => z.2) a b = true := by
  induction xs with
  | nil => intro bs _; exact .nil
  | cons x xs ih =>
    intro bs h
    cases bs with
    | nil => exact .nil
    | cons b bs =>
      have h1 := List.pairwise_cons.mp h
      refine List.pairwise_cons.mpr ⟨fun z hz => ?_, ih h1.2⟩
      obtain ⟨c, hc, e⟩ := List.mem_map.mp (List.of_mem_zip hz).2
      have lt : b.1.1 < c.1.1 := h1.1 c hc
      show PySem.W.dataLe (β := PyData) false id (rowD b) z.2 = true
      rw [← e]
      exact (le_2bars _ _ _ _ _ _ _ _).mpr (.inl lt)
theorem ok_bars_in_order (F : FnP K "bars_in_order" "bars_in_order" s_bars_in_order f fd) (B : BT mg) : FnOk P w K mg base CX0 1 f fd ["bars"] (sp_bars_in_order K) := by
  refine okN F sc_bars_in_order (fun vs H Q E h => ?_) (fun cdv A outer s H vs Q E hr h => ?_)
  · obtain ⟨_, _, rfl, _⟩ := h
    rfl
  obtain ⟨a, bs, rfl, ⟨ys, hL, hp⟩, pw, hl, hQ⟩ := h
  refine ⟨_, pss_cons (ps_set (i := 1) sc_bars_in_order.nd rfl (.inl rfl) (pe_lst pa_nil))
    (pss_cons (ps_for PassesOwn.never rfl (pi_list (pe_callB (cr_sortD hr.units) (by rfl) B.sorted (by decide +kernel) (pa_cons (pe_lc (own := [("bar", 3)]) (g := gName 3) (tt := tYes) rfl sc_bars_in_order.nd (pi_list (pv 0)) (blkOk_by (own := [("bar", 3)]) (N := ["bars", "kept", "size", "bar"]) (sc := defScope s_bars_in_order) (by decide +kernel)) (fun _ _ _ _ _ => (pg_name (i := 3) sc_bars_in_order.nd rfl (Or.inl rfl))) (fun _ _ _ _ _ => pts_nil) (fun _ _ _ _ _ => (pe_tup (pa_cons (pe_callB (callLen K) (by rfl) B.len (by decide +kernel) (pa_cons (pv 3) pa_nil)) (pa_cons (pv 3) pa_nil))))) pa_nil))) (pg_tup rfl (pgs_cons (pg_name (i := 2) sc_bars_in_order.nd rfl (Or.inl rfl)) (pgs_cons (pg_name (i := 3) sc_bars_in_order.nd rfl (Or.inl rfl)) pgs_nil)))
     (pss_one (ps_if (PW.pt (pw_or (pt_not (pt_truth (pv 1) (by intro _; rfl))) (pw_or1 (pt_cmpR (op_neD hr.units) (pe_ix ix_list (pv 1) (pe_un un_neg pe_int) (fun _ _ => rfl)) (pv 3) (nomark _)))))
      (pss_one (ps_expr (pe_bm PySem.F.plainAttrs_list PySem.F.slot_list_append PySem.F.type_list_append mt_append (pv 1) (pa_cons (pv 3) pa_nil))))
      pss_nil)))
    (pss_one (ps_ret (pv 1)))), ?_⟩
  have hyl : ys.length = bs.length := Paired.length hp
  refine ⟨szr, fun D nD => ?_⟩
  have sD : Same H (upd H D (.lst [])) := same_upd nD
  refine ⟨_, rfl, _, rfl, ⟨_, SqL.of (sD _ _ hL)⟩, fun L nL => ?_⟩
  have nLD : L ≠ D := fun e => by rw [e, upd_same] at nL; cases nL
  generalize hH0 : upd H D (.lst []) = H0 at sD nL
  have hD0 : H0 D = some (.lst []) := by rw [← hH0, upd_same]
  refine lc_it (walk_list (xs := ys)) (fun i H' => (∃ xs, H' L = some (.lst xs) ∧ Paired (Pr H') xs (bs.take i)) ∧ Same H0 H') ⟨⟨_, upd_same, .nil⟩, same_upd nL⟩ (fun i H' _ p => p.2.seq (SqL.of (sD _ _ hL))) ?_ ?_
  · rintro i x H1 H2 hi ⟨⟨xs, hx, hq⟩, h1⟩ ⟨rfl, hk⟩
    obtain ⟨b, hb, t, x1, x2, rfl, ht, m1, m2⟩ := paired_at hp hk
    have s1 := sD.trans h1
    refine ⟨rfl, ?_⟩
    refine yes_go (iteT ?_)
    refine ⟨_, rfl, t, _, rfl, .inr (SqT.of (s1 _ _ ht)), _, rfl, szr, fun p np => ?_⟩
    have s2 := same_upd (o := .tup [.int 2, .ref t]) np
    have np2 : p ≠ L := fun e => by subst e; rw [hx] at np; cases np
    refine ⟨xs, s2 _ _ hx, szl ?_, ⟨_, upd_same, ?_⟩, same_put (h1.trans s2) nL⟩
    · rw [Paired.length hq, List.length_take]
      omega
    · rw [take_snoc hb]
      refine paired_snoc (paired_mono (fun _ _ r => (r.same s2).put (s2 _ _ hx) (fun _ z => nomatch z)) hq) ⟨p, .ref t, rfl, ?_, ?_⟩
      · rw [upd_ne np2]
        exact upd_same
      · exact (Br.same (s1.trans s2) ⟨t, x1, x2, rfl, ht, m1, m2⟩).put (s2 _ _ hx) (fun _ z => nomatch z)
  · rintro H1 ⟨⟨xs, hx, hq⟩, h1⟩
    rw [hyl, List.take_length] at hq
    obtain ⟨z1, z2, z3⟩ := zip_pr hq
    refine ⟨L, xs.zip (bs.map rowD), rfl, ?_, fun q hq => ?_, ?_, ?_, fun M nM => ?_⟩
    · rw [z1]; exact SqL.of hx
    · obtain ⟨b, _, hpr, e⟩ := z3 q hq
      rw [e]
      exact ⟨hpr.dp, rowD_depth b⟩
    · rw [z2]; exact rows_alike rfl
    · rw [z2]; exact rows_sortable rfl
    rw [sort_sorted (pairwise_zip pw), z1]
    have s2 := same_upd (o := .lst xs) nM
    refine ⟨M, rfl, ⟨xs, SqL.of upd_same⟩, ?_⟩
    generalize hH2 : upd H1 M (.lst xs) = H2 at s2
    have hM : H2 M = some (.lst xs) := by rw [← hH2, upd_same]
    have nDM : D ≠ M := fun e => by rw [← e, (h1 _ _ hD0)] at nM; cases nM
    have hq2 : Paired (Pr H2) xs bs := paired_mono (fun _ _ r => r.same s2) hq
    have hD2 : H2 D = some (.lst []) := s2 _ _ (h1 _ _ hD0)
    refine for_it (walk_list (xs := xs)) (fun i σ H' => (∃ x y, σ = [some (.ref a), some (.ref D), x, y]) ∧ (∃ zs, H' D = some (.lst zs) ∧ Paired (Br H') zs (bs.take i)) ∧ Paired (Pr H') xs bs ∧ H' M = some (.lst xs) ∧ Same H H') ?_ (fun i σ H' _ p => SqL.of p.2.2.2.1) ?_ ?_
    · exact ⟨⟨_, _, rfl⟩, ⟨_, hD2, .nil⟩, hq2, hM, (sD.trans h1).trans s2⟩
    · rintro i x σ H3 H4 hi ⟨⟨x0, y0, rfl⟩, ⟨zs, hz, hzp⟩, hqq, hMM, hs⟩ ⟨rfl, hk⟩
      obtain ⟨b, hb, t, y, rfl, ht, hy⟩ := paired_at hqq hk
      refine ⟨t, _, rfl, SqT.of ht, rfl, _, _, rfl, _, _, rfl, rfl, ?_⟩
      have hxl : xs.length = bs.length := Paired.length hq2
      have hlen : zs.length = i := by
        rw [Paired.length hzp, List.length_take]
        have := (List.getElem?_eq_some_iff.mp hb).1
        omega
      have fin : ∀ {D' : Ends} (hn : D'.nx = fun σ H' => (∃ x y, σ = [some (.ref a), some (.ref D), x, y]) ∧ (∃ zs, H' D = some (.lst zs) ∧ Paired (Br H') zs (bs.take (i + 1))) ∧ Paired (Pr H') xs bs ∧ H' M = some (.lst xs) ∧ Same H H'), D'.nx [some (.ref a), some (.ref D), some (.int 2), some y] (upd H4 D (.lst (zs ++ [y]))) := by
        intro D' hn
        rw [hn]
        refine ⟨⟨_, _, rfl⟩, ⟨_, upd_same, ?_⟩, ?_, ?_, same_put hs nD⟩
        · rw [take_snoc hb]
          exact paired_snoc (paired_mono (fun _ _ r => r.put hz (fun _ z => nomatch z)) hzp) (hy.put hz (fun _ z => nomatch z))
        · exact paired_mono (fun _ _ r => r.put hz (fun _ z => nomatch z)) hqq
        · rw [upd_ne (fun e => nDM e.symm)]; exact hMM
      refine ⟨_, rfl, !zs.isEmpty, .inl ⟨_, SqL.of hz, rfl⟩, ?_⟩
      refine ite2 (fun _ => ?_) (fun h0 => ?_)
      · exact iteT ⟨_, rfl, tyL (SqL.of hz), _, rfl, D, zs, _, rfl, rfl, hz, szl (by omega), fin rfl⟩
      · have hne : zs ≠ [] := by
          intro e
          apply h0
          rw [e]
          rfl
        have hpos : 0 < i := by
          rcases Nat.eq_zero_or_pos i with e | e
          · rw [e] at hlen
            exact absurd (List.length_eq_zero_iff.mp hlen) hne
          · exact e
        obtain ⟨z, hzl⟩ : ∃ z, zs[i - 1]? = some z := ⟨zs[i - 1]'(by omega), by simp [show i - 1 < zs.length by omega]⟩
        obtain ⟨c, hc, hcb⟩ := paired_at hzp hzl
        rw [List.getElem?_take_of_lt (by omega)] at hc
        have hlt : ltB c b := by
          have h1 := (List.getElem?_eq_some_iff.mp hc)
          have h2 := (List.getElem?_eq_some_iff.mp hb)
          obtain ⟨l1, e1⟩ := h1
          obtain ⟨l2, e2⟩ := h2
          rw [← e1, ← e2]
          exact List.pairwise_iff_getElem.mp pw (i - 1) i l1 l2 (by omega)
        have nbc : c ≠ b := fun e => by rw [e] at hlt; exact absurd hlt (Int.lt_irrefl _)
        have hat : atI zs (-1) = some z := by
          unfold atI ixN
          rw [if_neg (by omega), if_pos (by omega)]
          show zs[((-1 : Int) + zs.length).toNat]? = some z
          rw [show ((-1 : Int) + zs.length).toNat = i - 1 from by omega]
          exact hzl
        refine ⟨_, rfl, _, rfl, D, zs, -1, z, rfl, rfl, SqL.of hz, hat, _, rfl, _, _, hcb.dp, hy.dp, barD_shaped _, barD_shaped _, _, rfl, ?_⟩
        rw [barD_eqv, decide_eq_false nbc]
        exact iteT ⟨_, rfl, tyL (SqL.of hz), _, rfl, D, zs, _, rfl, rfl, hz, szl (by omega), fin rfl⟩
    · rintro σ H3 ⟨⟨x0, y0, rfl⟩, ⟨zs, hz, hzp⟩, _, _, hs⟩
      rw [Paired.length hq2, List.take_length] at hzp
      exact ⟨_, rfl, hQ D _ hs nD ⟨zs, hz, hzp⟩⟩
end
end K80
end
section
set_option maxHeartbeats 4000000
namespace K80
open PySem PySem.Spec PyProof.Rows L2 Inf
/-- an Apart with its places -/
def ApI (C : Addr) (H : Hp) (x : V) (ns : List Int) : Prop := ∃ a dx pl wd, x = .ref a ∧ H a = some (.ins C dx [("places", .ref pl), ("width", wd)]) ∧ H pl = some (.tup (ns.map V.int))
theorem ApI.same {C : Addr} {H H' : Hp} (e : Same H H') {x : V} {ns : List Int} (h : ApI C H x ns) : ApI C H' x ns := let ⟨a, dx, pl, wd, h1, h2, h3⟩ := h; ⟨a, dx, pl, wd, h1, e _ _ h2, e _ _ h3⟩
theorem apart_ints {ns : List Int} (pw : ns.Pairwise (· < ·)) : Apart (ns.map V.int) := by
  intro i j x y hij hx hy
  rw [List.getElem?_map] at hx hy
  obtain ⟨a, ha, rfl⟩ := Option.map_eq_some_iff.mp hx
  obtain ⟨b, hb, rfl⟩ := Option.map_eq_some_iff.mp hy
  obtain ⟨l1, e1⟩ := List.getElem?_eq_some_iff.mp ha
  obtain ⟨l2, e2⟩ := List.getElem?_eq_some_iff.mp hb
  have := List.pairwise_iff_getElem.mp pw i j l1 l2 hij
  rw [e1, e2] at this
  show (a == b) = false
  exact beq_eq_false_iff_ne.mpr (by omega)
theorem all_flat (ns : List Int) : (ns.map V.int).all flatV = true := List.all_eq_true.mpr fun x hx => by
  obtain ⟨k, _, rfl⟩ := List.mem_map.mp hx
  rfl
/-- the bars of equal values, the earlier mark first -/
def eqB (ms : List (Int × Int)) (i : Nat) : List Bar := match ms[i]? with
  | none => []
  | some m => ((ms.drop (i + 1)).filter fun t => decide (m.2 = t.2)).map fun t => (m, t)
theorem eqB_len (ms : List (Int × Int)) (i : Nat) : (eqB ms i).length ≤ ms.length := by
  unfold eqB
  split
  · simp
  · rw [List.length_map]
    refine Nat.le_trans (List.length_filter_le _ _) ?_
    rw [List.length_drop]
    omega
theorem eqTo_len (ms : List (Int × Int)) (i : Nat) : ((List.range i).flatMap (eqB ms)).length ≤ i * ms.length := by
  induction i with
  | zero => simp
  | succ i ih =>
    rw [List.range_succ, List.flatMap_append, List.length_append, List.flatMap_singleton, Nat.succ_mul]
    exact Nat.add_le_add ih (eqB_len ms i)
def eqBars (ms : List (Int × Int)) : List Bar := (List.range ms.length).flatMap (eqB ms)
section
variable {P : Program} {w : World} {K : PySem.W.Frag} {mg : Str → Option Value} {base : Heap} {f : Addr} {fd : FuncData}
/-! ### Apart.__init__ -/
def sp_Apart_init (C : Addr) (K : PySem.W.Frag) : Sp := fun vs H Q _ => ∃ (x dx l : Addr) (ns : List Int), vs = [.ref x, .ref l] ∧ H x = some (.ins C dx []) ∧ SqL K H l (ns.map V.int) ∧ ns.Pairwise (· < ·) ∧
  ∀ H', SameBut x H H' → ApI C H' (.ref x) ns → Q .non H'
theorem ok_Apart_init {C : Addr} (F : FnP K "__init__" "Apart.__init__" s_Apart_init f fd) (B : BT mg) (hC : Cls K C) (n1 : NoAttr K C "places") (n2 : NoAttr K C "width") (G_distinct : Has P w K mg base CX0 2 "distinct" (sp_distinct K)) :
    FnOk P w K mg base CX0 3 f fd ["self", "places"] (sp_Apart_init C K) := by
  refine okN F sc_Apart_init (fun vs H Q E h => ?_) (fun cdv A outer s H vs Q E hr h => ?_)
  · obtain ⟨_, _, _, _, rfl, _⟩ := h
    rfl
  obtain ⟨x, dx, l, ns, rfl, hx, hS, pw, hQ⟩ := h
  refine ⟨_, pss_cons (ps_fld (pv 0) (pe_c G_distinct hr (pa_cons (pv 1) pa_nil)) rfl)
    (pss_one (ps_fld (pv 0) (pe_ifExp (pt_cmpR op_gt (pe_callB call_len_seq (by rfl) B.len (by decide +kernel) (pa_cons (pe_fld (pv 0) rfl) pa_nil)) pe_int (nomark _)) pe_int pe_int) rfl)), ?_⟩
  refine ⟨_, rfl, l, _, rfl, hS, all_flat ns, apart_ints pw, fun p H1 hs np hp => ?_⟩
  have npx : p ≠ x := fun e => by subst e; rw [hx] at np; cases np
  refine ⟨_, rfl, x, C, dx, [], rfl, hs _ _ hx, hC, n1, by decide, ?_⟩
  have h2 : upd H1 x (.ins C dx (putF "places" (.ref p) [])) x = some (.ins C dx [("places", .ref p)]) := by rw [upd_same]; rfl
  have h3 : upd H1 x (.ins C dx (putF "places" (.ref p) [])) p = some (.tup (ns.map V.int)) := by rw [upd_ne npx]; exact hp
  have fin : ∀ wd : V, (∀ H', SameBut x H H' → ApI C H' (.ref x) ns → Q .non H') → Q .non (upd (upd H1 x (.ins C dx (putF "places" (.ref p) []))) x (.ins C dx (putF "width" wd [("places", .ref p)]))) := by
    intro wd hQ
    refine hQ _ (fun b o n e => ?_) ⟨x, dx, p, wd, rfl, ?_, ?_⟩
    · rw [upd_ne n, upd_ne n]; exact hs _ _ e
    · rw [upd_same]; rfl
    · rw [upd_ne npx]; exact h3
  refine ⟨_, rfl, x, C, dx, _, _, rfl, h2, hC, n1, rfl, p, _, rfl, .inr (SqT.of h3), _, _, rfl, rfl, _, rfl, ?_⟩
  refine ite2 (fun _ => ?_) (fun _ => ?_)
  · exact ⟨_, rfl, x, C, dx, _, rfl, h2, hC, n2, Nat.le_of_ble_eq_true rfl, fin _ hQ⟩
  · exact ⟨_, rfl, x, C, dx, _, rfl, h2, hC, n2, Nat.le_of_ble_eq_true rfl, fin _ hQ⟩
/-! ### Apart.bars_in -/
def marks (kvs : List (Int × Int)) (ns : List Int) : List (Int × Int) := (ns.filter fun k => decide (0 < gv kvs k)).map fun k => (k, gv kvs k)
def sp_Apart_bars_in (C : Addr) (K : PySem.W.Frag) : Sp := fun vs H Q _ => ∃ (x : V) (a : Addr) (kvs : List (Int × Int)) (ns : List Int), vs = [x, .ref a] ∧ ApI C H x ns ∧ Bk H a kvs ∧ ns.Pairwise (· < ·) ∧ ns.length < 64 ∧
  ∀ p H', Same H H' → H p = none → Brs H' p (eqBars (marks kvs ns)) → Q (.ref p) H'
theorem ok_Apart_bars_in {C : Addr} (F : FnP K "bars_in" "Apart.bars_in" s_Apart_bars_in f fd) (B : BT mg) (hC : Cls K C) (n1 : NoAttr K C "places") (G_filled_marks : Has P w K mg base CX0 2 "filled_marks" (sp_filled_marks K)) :
    FnOk P w K mg base CX0 3 f fd ["self", "book"] (sp_Apart_bars_in C K) := by
  refine okN F sc_Apart_bars_in (fun vs H Q E h => ?_) (fun cdv A outer s H vs Q E hr h => ?_)
  · obtain ⟨_, _, _, _, rfl, _⟩ := h
    rfl
  obtain ⟨_, b, kvs, ns, rfl, ⟨x, dx, pl, wd, rfl, hx, hpl⟩, hB, pw, hl, hQ⟩ := h
  refine ⟨_, pss_cons (ps_set (i := 2) sc_Apart_bars_in.nd rfl (.inr rfl) (pe_c G_filled_marks hr (pa_cons (pv 1) (pa_cons (pe_fld (pv 0) rfl) pa_nil))))
    (pss_one (ps_ret (pe_lc2 (own := [("position", 3), ("one", 4), ("two", 5)]) (vs1 := [5]) (g1 := gName 5) (tt := tYes) rfl sc_Apart_bars_in.nd (pi_enum rfl B.enumerate (pa_cons (pv 2) pa_nil))
      (blkOk_by (own := [("position", 3), ("one", 4), ("two", 5)]) (N := ["self", "book", "marks", "position", "one", "two"]) (sc := defScope s_Apart_bars_in) (by decide +kernel)) (by decide)
      (fun _ _ _ _ _ => pgTup (n := 2) K rfl (pgs_cons (pg_name (i := 3) sc_Apart_bars_in.nd rfl (Or.inl rfl)) (pgs_cons (pg_name (i := 4) sc_Apart_bars_in.nd rfl (Or.inl rfl)) pgs_nil))) (fun _ _ _ _ _ => pts_nil)
      (fun _ _ _ _ _ => piList K (pe_slice (slList K) (pv 2) (po_some (pe_op op_add (pv 3) pe_int)) po_none))
      (fun _ _ _ _ _ => pg_name (i := 5) sc_Apart_bars_in.nd rfl (Or.inl rfl))
      (fun _ _ _ _ _ => pts_one (pt_cmpR op_eq (pe_ix (ixTup K) (pv 4) pe_int (fun _ _ => rfl)) (pe_ix (ixTup K) (pv 5) pe_int (fun _ _ => rfl)) (nomark _)))
      (fun _ _ _ _ _ => pe_tup (pa_cons (pv 4) (pa_cons (pv 5) pa_nil)))))), ?_⟩
  refine ⟨_, rfl, _, rfl, x, C, dx, _, _, rfl, hx, hC, n1, rfl, b, pl, kvs, ns, rfl, hB, SqT.of hpl, pw, hl, fun L H1 hs nL hM => ?_⟩
  obtain ⟨xs, hL, hp⟩ := hM
  have hxl : xs.length = (marks kvs ns).length := Paired.length hp
  refine ⟨_, rfl, L, xs, rfl, SqL.of hL, fun D nD => ?_⟩
  have nLD : L ≠ D := fun e => by subst e; rw [hL] at nD; cases nD
  have hml : (marks kvs ns).length < 64 := by
    have := List.length_filter_le (fun k => decide (0 < gv kvs k)) ns
    unfold marks
    simp at this ⊢
    omega
  refine walk_by walk_enum (fun i H' => Brs H' D ((List.range i).flatMap (eqB (marks kvs ns))) ∧ Same H1 H') ⟨⟨_, upd_same, .nil⟩, same_upd nD⟩ (fun i H' _ p => p.2.seq (SqL.of hL)) ?_ ?_
  · rintro i x H2 H3 hi ⟨⟨zs, hz, hzp⟩, h2⟩ ⟨T, u, v, rfl, nT, rfl, hu, hv⟩
    cases hu
    have s2 := same_upd (o := .tup [.int (i : Nat), v]) nT
    obtain ⟨m, hm, mm⟩ := paired_at hp hv
    obtain ⟨tm, rfl, htm⟩ := mm
    refine ⟨T, _, rfl, SqT.of upd_same, rfl, _, _, rfl, _, _, rfl, rfl, rfl, ?_⟩
    refine yes_go (iteT ?_)
    generalize hH3 : upd H2 T (.tup [.int (i : Nat), .ref tm]) = H3 at s2
    have s3 := h2.trans s2
    refine ⟨_, rfl, _, rfl, _, _, rfl, rfl, _, rfl, L, xs, rfl, SqL.of (s3 _ _ hL), fun q nq => ?_⟩
    have s4 := same_upd (o := .lst (cutV xs (some ((i : Int) + 1)) none)) nq
    have ecut : cutV xs (some ((i : Int) + 1)) none = xs.drop (i + 1) := cut_from xs (i + 1)
    rw [ecut] at s4 ⊢
    refine ⟨q, rfl, ⟨_, SqL.of upd_same⟩, ?_⟩
    have hq0 : upd H3 q (.lst (xs.drop (i + 1))) q = some (.lst (xs.drop (i + 1))) := upd_same
    generalize hH4 : upd H3 q (.lst (xs.drop (i + 1))) = H4 at s4 hq0
    have s5 := s3.trans s4
    have hz4 : H4 D = some (.lst zs) := s4 _ _ (s2 _ _ hz)
    have nqD : q ≠ D := fun e => by subst e; rw [s2 _ _ hz] at nq; cases nq
    have hdp : Paired (Mk2 H1) (xs.drop (i + 1)) ((marks kvs ns).drop (i + 1)) := paired_drop hp (i + 1)
    refine walk_by (walk_list (xs := xs.drop (i + 1))) (fun j H' => Brs H' D ((List.range i).flatMap (eqB (marks kvs ns)) ++ ((((marks kvs ns).drop (i + 1)).take j).filter fun t => decide (m.2 = t.2)).map fun t => (m, t)) ∧ Same H1 H' ∧ H' q = some (.lst (xs.drop (i + 1)))) ?_ (fun j H' _ p => SqL.of p.2.2) ?_ ?_
    · refine ⟨⟨zs, hz4, ?_⟩, s5, hq0⟩
      simp only [List.take_zero, List.filter_nil, List.map_nil, List.append_nil]
      exact paired_mono (fun _ _ r => r.same (s2.trans s4)) hzp
    · rintro j y H5 H6 hj ⟨⟨ws, hw, hwp⟩, h5, hq5⟩ ⟨rfl, hy⟩
      obtain ⟨t, ht, mt⟩ := paired_at hdp hy
      obtain ⟨tt, rfl, htt⟩ := mt
      refine ⟨rfl, ?_⟩
      have e1 : H6 tm = some (.tup [.int m.1, .int m.2]) := h5 _ _ htm
      have e2 : H6 tt = some (.tup [.int t.1, .int t.2]) := h5 _ _ htt
      refine ⟨_, rfl, _, _, _, _, rfl, rfl, SqT.of e1, atI_nat (j := 1) (v := .int m.2) (by simp), _, rfl, _, _, _, _, rfl, rfl, SqT.of e2, atI_nat (j := 1) (v := .int t.2) (by simp), rfl, _, rfl, ?_⟩
      rw [dec_int]
      have ts : ((marks kvs ns).drop (i + 1)).take (j + 1) = ((marks kvs ns).drop (i + 1)).take j ++ [t] := take_snoc ht
      refine ite2 (fun h0 => ?_) (fun h0 => ?_)
      · have h0' : m.2 = t.2 := by simpa using h0
        refine ⟨_, rfl, _, rfl, szr, fun r nr => ?_⟩
        have s6 := same_upd (o := .tup [.ref tm, .ref tt]) nr
        refine ⟨ws, s6 _ _ hw, szl ?_, ⟨_, upd_same, ?_⟩, same_put (h5.trans s6) nD, ?_⟩
        · rw [Paired.length hwp, List.length_append, List.length_map]
          have l1 := eqTo_len (marks kvs ns) i
          have l2 : i * (marks kvs ns).length ≤ 64 * 64 := Nat.mul_le_mul (by omega) (by omega)
          have l3 := List.length_filter_le (fun t : Int × Int => decide (m.2 = t.2)) (((marks kvs ns).drop (i + 1)).take j)
          rw [List.length_take, List.length_drop] at l3
          omega
        · rw [ts, List.filter_append, List.map_append, ← List.append_assoc]
          have e : [t].filter (fun t => decide (m.2 = t.2)) = [t] := by simp [h0']
          rw [e]
          refine paired_snoc (paired_mono (fun _ _ z => (z.same s6).put (s6 _ _ hw) (fun _ z => nomatch z)) hwp) ?_
          refine Br.put (s6 _ _ hw) (fun _ z => nomatch z) ⟨r, _, _, rfl, upd_same, ⟨tm, rfl, s6 _ _ e1⟩, ⟨tt, rfl, s6 _ _ e2⟩⟩
        · rw [upd_ne nqD]; exact s6 _ _ hq5
      · have h0' : ¬ m.2 = t.2 := by simpa using h0
        rw [ts, List.filter_append, List.map_append]
        have e : [t].filter (fun t => decide (m.2 = t.2)) = [] := by simp [h0']
        rw [e, List.map_nil, List.append_nil]
        exact ⟨⟨ws, hw, hwp⟩, h5, hq5⟩
    · rintro H5 ⟨h5, h6, _⟩
      refine ⟨?_, h6⟩
      rw [List.range_succ, List.flatMap_append]
      have e : ([i] : List Nat).flatMap (eqB (marks kvs ns)) = (((marks kvs ns).drop (i + 1)).filter fun t => decide (m.2 = t.2)).map fun t => (m, t) := by
        rw [List.flatMap_singleton]
        unfold eqB
        rw [show (marks kvs ns)[i]? = some m from hm]
      rw [e]
      rw [Paired.length hdp, List.take_length] at h5
      exact h5
  · rintro H2 ⟨h2, h3⟩
    rw [hxl] at h2
    exact hQ D H2 (hs.trans h3) (hs.free nD) h2
/-! ### Apart.reason -/
/-- the first of the bars, or None -/
def Fst (H : Hp) (x : V) : Option Bar → Prop
  | none => x = .non
  | some b => Br H x b
theorem fst_of {H : Hp} {xs : List V} {bs : List Bar} (h : Paired (Br H) xs bs) : Fst H (xs.head?.getD .non) bs.head? := by
  cases h with
  | nil => rfl
  | cons h _ => exact h
theorem Fst.same {H H' : Hp} (e : Same H H') {x : V} : ∀ {o : Option Bar}, Fst H x o → Fst H' x o
  | none, h => h
  | some _, h => Br.same e h
def sp_Apart_reason (C : Addr) (K : PySem.W.Frag) : Sp := fun vs H Q _ => ∃ (x : V) (a : Addr) (kvs : List (Int × Int)) (ns : List Int), vs = [x, .ref a] ∧ ApI C H x ns ∧ Bk H a kvs ∧ ns.Pairwise (· < ·) ∧ ns.length < 64 ∧
  ∀ v H', Same H H' → Fst H' v (eqBars (marks kvs ns)).head? → Q v H'
theorem ok_Apart_reason {C : Addr} (F : FnP K "reason" "Apart.reason" s_Apart_reason f fd) (G_first_of : Has P w K mg base CX0 1 "first_of" (sp_first_of K)) (M_Apart_bars_in : HasM P w K mg base CX0 3 C "bars_in" (sp_Apart_bars_in C K)) :
    FnOk P w K mg base CX0 4 f fd ["self", "book"] (sp_Apart_reason C K) := by
  refine okN F sc_Apart_reason (fun vs H Q E h => ?_) (fun cdv A outer s H vs Q E hr h => ?_)
  · obtain ⟨_, _, _, _, rfl, _⟩ := h
    rfl
  obtain ⟨_, b, kvs, ns, rfl, ⟨x, dx, pl, wd, rfl, hx, hpl⟩, hB, pw, hl, hQ⟩ := h
  refine ⟨_, pss_one (ps_ret (pe_c G_first_of hr (pa_cons (pe_mt M_Apart_bars_in hr (pv 0) (pa_cons (pv 1) pa_nil)) pa_nil))), ?_⟩
  refine ⟨_, rfl, x, dx, _, rfl, hx, rfl, _, rfl, _, b, kvs, ns, rfl, ⟨x, dx, pl, wd, rfl, hx, hpl⟩, hB, pw, hl, fun p H1 hs np ⟨xs, hL, hp⟩ => ?_⟩
  exact ⟨p, xs, rfl, hL, hQ _ _ hs (fst_of hp)⟩
/-! ### Needs.__init__ -/
/-- a Needs with its pairs -/
def NdI (C : Addr) (H : Hp) (x : V) (ps : List (Int × Int)) : Prop := ∃ a dx l pl wd, x = .ref a ∧ H a = some (.ins C dx [("_pairs", .ref l), ("places", pl), ("width", wd)]) ∧ Ms H l ps
theorem NdI.same {C : Addr} {H H' : Hp} (e : Same H H') {x : V} {ps : List (Int × Int)} (h : NdI C H x ps) : NdI C H' x ps := let ⟨a, dx, l, pl, wd, h1, h2, h3⟩ := h; ⟨a, dx, l, pl, wd, h1, e _ _ h2, h3.same e⟩
def sp_Needs_init (C : Addr) (K : PySem.W.Frag) : Sp := fun vs H Q _ => ∃ (x dx l : Addr) (ps : List (Int × Int)), vs = [.ref x, .ref l] ∧ H x = some (.ins C dx []) ∧ Ms H l ps ∧ (∀ p ∈ ps, p.1 ≠ p.2) ∧ ps.length ≤ 100 ∧
  ∀ H', SameBut x H H' → NdI C H' (.ref x) ps → Q .non H'
theorem ok_Needs_init {C : Addr} (F : FnP K "__init__" "Needs.__init__" s_Needs_init f fd) (B : BT mg) (hC : Cls K C) (n1 : NoAttr K C "_pairs") (n2 : NoAttr K C "places") (n3 : NoAttr K C "width") :
    FnOk P w K mg base CX0 1 f fd ["self", "pairs"] (sp_Needs_init C K) := by
  refine okN F sc_Needs_init (fun vs H Q E h => ?_) (fun cdv A outer s H vs Q E hr h => ?_)
  · obtain ⟨_, _, _, _, rfl, _⟩ := h
    rfl
  obtain ⟨x, dx, l, ps, rfl, hx, ⟨xs, hL, hp⟩, hne, hl, hQ⟩ := h
  have hxl : xs.length = ps.length := Paired.length hp
  refine ⟨_, pss_cons (ps_for PassesOwn.never rfl (pi_list (pv 1)) (pg_tup rfl (pgs_cons (pg_name (i := 2) sc_Needs_init.nd rfl (Or.inl rfl)) (pgs_cons (pg_name (i := 3) sc_Needs_init.nd rfl (Or.inl rfl)) pgs_nil)))
     (pss_one (ps_if (pt_cmpR op_eq (pv 2) (pv 3) (nomark _))
      (pss_one ps_never)
      pss_nil)))
    (pss_cons (ps_fld (pv 0) (pe_lc (own := [("first", 2), ("second", 3)]) (tt := tYes) rfl sc_Needs_init.nd (pi_list (pv 1)) (blkOk_by (own := [("first", 2), ("second", 3)]) (N := ["self", "pairs", "first", "second", "pair", "place"]) (sc := defScope s_Needs_init) (by decide +kernel)) (fun _ _ _ _ _ => (pgTup (n := 2) K rfl (pgs_cons (pg_name (i := 2) sc_Needs_init.nd rfl (Or.inl rfl)) (pgs_cons (pg_name (i := 3) sc_Needs_init.nd rfl (Or.inl rfl)) pgs_nil)))) (fun _ _ _ _ _ => pts_nil) (fun _ _ _ _ _ => (pe_tup (pa_cons (pv 2) (pa_cons (pv 3) pa_nil))))) rfl)
    (pss_cons (ps_fld (pv 0) (pe_callTy (call_tupleD rfl) (by rfl) B.tuple (by decide +kernel) (pa_cons (pe_dc2 (own := [("pair", 4), ("place", 5)]) (vs1 := [5]) (g := gName 4) (g1 := gName 5) (tt := tYes) (tt1 := tYes) rfl sc_Needs_init.nd (pi_list (pe_fld (pv 0) rfl))
      (blkOk_by (own := [("pair", 4), ("place", 5)]) (N := ["self", "pairs", "first", "second", "pair", "place"]) (sc := defScope s_Needs_init) (by decide +kernel)) (by decide)
      (fun _ _ _ _ _ => pg_name (i := 4) sc_Needs_init.nd rfl (Or.inl rfl)) (fun _ _ _ _ _ => pts_nil) (fun _ _ _ _ _ => piTup K (pv 4)) (fun _ _ _ _ _ => pg_name (i := 5) sc_Needs_init.nd rfl (Or.inl rfl)) (fun _ _ _ _ _ => pts_nil)
      (fun _ _ _ _ _ => pv 5) (fun _ _ _ _ _ => pe_bl)) pa_nil)) rfl)
    (pss_one (ps_fld (pv 0) (pe_ifExp (pt_truth (pe_fld (pv 0) rfl) (by intro _; rfl)) pe_int pe_int) rfl)))), ?_⟩
  refine ⟨_, rfl, l, rfl, ⟨xs, SqL.of hL⟩, ?_⟩
  refine for_it (walk_list (xs := xs)) (fun i σ H' => (∃ u v, σ = [some (.ref x), some (.ref l), u, v, none, none]) ∧ H' = H) ⟨⟨_, _, rfl⟩, rfl⟩ (fun i σ H' _ p => by rw [p.2]; exact SqL.of hL) ?_ ?_
  · rintro i y σ H1 H2 hi ⟨⟨u, v, rfl⟩, rfl⟩ ⟨rfl, hy⟩
    obtain ⟨p, hp1, t, rfl, ht⟩ := paired_at hp hy
    refine ⟨t, _, rfl, SqT.of ht, rfl, _, _, rfl, _, _, rfl, rfl, ?_⟩
    refine ⟨_, rfl, _, rfl, rfl, _, rfl, ?_⟩
    rw [dec_int, beq_eq_false_iff_ne.mpr (hne p (List.mem_of_getElem? hp1))]
    exact iteF ⟨⟨_, _, rfl⟩, rfl⟩
  · rintro σ H1 ⟨⟨u, v, rfl⟩, rfl⟩
    refine ⟨_, rfl, l, rfl, ⟨xs, SqL.of hL⟩, fun D nD => ?_⟩
    refine lc_it (walk_list (xs := xs)) (fun i H' => Ms H' D (ps.take i) ∧ Same H1 H') ⟨⟨_, upd_same, .nil⟩, same_upd nD⟩ (fun i H' _ p => p.2.seq (SqL.of hL)) ?_ ?_
    · rintro i y H2 H3 hi ⟨⟨ws, hw, hwp⟩, h2⟩ ⟨rfl, hy⟩
      obtain ⟨p, hp1, t, rfl, ht⟩ := paired_at hp hy
      refine ⟨t, _, rfl, SqT.of (h2 _ _ ht), rfl, _, _, rfl, _, _, rfl, rfl, rfl, ?_⟩
      refine yes_go (iteT ?_)
      refine ⟨_, rfl, _, rfl, szr, fun q nq => ?_⟩
      have s3 := same_upd (o := .tup [.int p.1, .int p.2]) nq
      refine ⟨ws, s3 _ _ hw, szl ?_, ⟨_, upd_same, ?_⟩, same_put (h2.trans s3) nD⟩
      · rw [Paired.length hwp, List.length_take]
        omega
      · rw [take_snoc hp1]
        refine paired_snoc (paired_mono (fun _ _ r => (r.same s3).put (s3 _ _ hw) (fun _ z => nomatch z)) hwp) ⟨q, rfl, ?_⟩
        rw [upd_ne (fun e => by subst e; rw [hw] at nq; cases nq)]
        exact upd_same
    · rintro H2 ⟨h1, h2⟩
      rw [hxl, List.take_length] at h1
      have hxD : D ≠ x := fun e => by subst e; rw [hx] at nD; cases nD
      refine ⟨_, rfl, x, C, dx, [], rfl, h2 _ _ hx, hC, n1, by decide, ?_⟩
      generalize hH3 : upd H2 x (.ins C dx (putF "_pairs" (.ref D) [])) = H3
      have hx3 : H3 x = some (.ins C dx [("_pairs", .ref D)]) := by rw [← hH3, upd_same]; rfl
      have b3 : SameBut x H1 H3 := fun b o n e => by rw [← hH3, upd_ne n]; exact h2 _ _ e
      obtain ⟨ys, hy, hyp⟩ := h1
      have hy3 : H3 D = some (.lst ys) := by rw [← hH3, upd_ne hxD]; exact hy
      have hyp3 : Paired (Mk2 H3) ys ps := by
        rw [← hH3]
        exact paired_mono (fun _ _ r => r.put (h2 _ _ hx) (fun _ z => nomatch z)) hyp
      have hyl : ys.length = ps.length := Paired.length hyp
      refine ⟨_, rfl, x, C, dx, _, _, rfl, hx3, hC, n1, rfl, D, rfl, ⟨ys, SqL.of hy3⟩, fun Z nZ => ?_⟩
      refine walk_by (walk_list (xs := ys)) (fun i H' => (∃ kvs : List (Key × V), H' Z = some (.dK kvs) ∧ kvs.length ≤ 2 * i) ∧ Same H3 H') ⟨⟨[], upd_same, by simp⟩, same_upd nZ⟩ (fun i H' _ p => p.2.seq (SqL.of hy3)) ?_ ?_
      · rintro i y H4 H5 hi ⟨⟨kvs, hk, hkl⟩, h4⟩ ⟨rfl, hyi⟩
        obtain ⟨p, hp1, t, rfl, ht⟩ := paired_at hyp3 hyi
        have ht5 : H5 t = some (.tup [.int p.1, .int p.2]) := h4 _ _ ht
        refine ⟨rfl, yes_go (iteT ?_)⟩
        refine ⟨_, rfl, t, rfl, ⟨_, SqT.of ht5⟩, ?_⟩
        refine walk_by (walk_tup (xs := [V.int p.1, V.int p.2])) (fun j H' => (∃ kvs : List (Key × V), H' Z = some (.dK kvs) ∧ kvs.length ≤ 2 * i + j) ∧ Same H3 H') ⟨⟨kvs, hk, by omega⟩, h4⟩ (fun j H' _ p => SqT.of (p.2 _ _ ht)) ?_ ?_
        · rintro j z H6 H7 hj ⟨⟨kv2, hk2, hl2⟩, h6⟩ ⟨rfl, hz⟩
          refine ⟨rfl, yes_go (iteT ?_)⟩
          obtain ⟨q, rfl⟩ : ∃ q : Int, z = .int q := by
            match j, hj, hz with
            | 0, _, hz => exact ⟨_, (Option.some.inj hz).symm⟩
            | 1, _, hz => exact ⟨_, (Option.some.inj hz).symm⟩
          have hj2 : j < 2 := hj
          refine ⟨_, rfl, kv2, .inl q, rfl, hk2, szl (by omega), ⟨_, upd_same, ?_⟩, same_put h6 nZ⟩
          have := length_putK kv2 (.inl q) (V.bl true)
          omega
        · rintro H6 ⟨⟨kv2, hk2, hl2⟩, h6⟩
          refine ⟨⟨kv2, hk2, ?_⟩, h6⟩
          have hl3 : kv2.length ≤ 2 * i + 2 := hl2
          omega
      · rintro H4 ⟨⟨kvs, hk, hkl⟩, h4⟩
        refine ⟨Z, kvs, rfl, hk, fun pl npl => ?_⟩
        have s5 := same_upd (o := .tup (kvs.map fun kv => kV kv.1)) npl
        generalize hH5 : upd H4 pl (.tup (kvs.map fun kv => kV kv.1)) = H5 at s5
        have hx5 : H5 x = some (.ins C dx [("_pairs", .ref D)]) := s5 _ _ (h4 _ _ hx3)
        refine ⟨_, rfl, x, C, dx, _, rfl, hx5, hC, n2, Nat.le_of_ble_eq_true rfl, ?_⟩
        generalize hH6 : upd H5 x (.ins C dx (putF "places" (.ref pl) [("_pairs", .ref D)])) = H6
        have hx6 : H6 x = some (.ins C dx [("_pairs", .ref D), ("places", .ref pl)]) := by rw [← hH6, upd_same]; rfl
        have b6 : SameBut x H3 H6 := fun b o n e => by rw [← hH6, upd_ne n]; exact s5 _ _ (h4 _ _ e)
        have hy6 : H6 D = some (.lst ys) := b6 _ _ hxD hy3
        have m6 : Paired (Mk2 H6) ys ps := paired_mono (fun _ _ ⟨t, e, h⟩ => ⟨t, e, b6 _ _ (fun z => by subst z; rw [hx3] at h; cases h) h⟩) hyp3
        have fin : ∀ wd : V, (∀ H', SameBut x H1 H' → NdI C H' (.ref x) ps → Q .non H') → Q .non (upd H6 x (.ins C dx (putF "width" wd [("_pairs", .ref D), ("places", .ref pl)]))) := by
          intro wd hQ
          refine hQ _ ((b3.trans b6).trans SameBut.upd) ⟨x, dx, D, .ref pl, wd, rfl, ?_, ys, ?_, ?_⟩
          · rw [upd_same]; rfl
          · rw [upd_ne hxD]; exact hy6
          · exact paired_mono (fun _ _ r => r.put hx6 (fun _ z => nomatch z)) m6
        refine ⟨_, rfl, x, C, dx, _, _, rfl, hx6, hC, n1, rfl, !ys.isEmpty, .inl ⟨ys, SqL.of hy6, rfl⟩, ?_⟩
        refine ite2 (fun _ => ?_) (fun _ => ?_)
        · exact ⟨_, rfl, x, C, dx, _, rfl, hx6, hC, n3, Nat.le_of_ble_eq_true rfl, fin _ hQ⟩
        · exact ⟨_, rfl, x, C, dx, _, rfl, hx6, hC, n3, Nat.le_of_ble_eq_true rfl, fin _ hQ⟩
end
end K80
end
section
set_option maxHeartbeats 4000000
namespace K80
open PySem PySem.Spec PyProof.Rows L2 Inf
/-- the bar of a pair that is missing -/
def ndB (kvs : List (Int × Int)) (p : Int × Int) : Option Bar :=
  if 0 < gv kvs p.1 ∧ gv kvs p.2 = 0 then some (if p.1 < p.2 then ((p.1, gv kvs p.1), (p.2, 0)) else ((p.2, 0), (p.1, gv kvs p.1))) else none
def ndBars (kvs : List (Int × Int)) (ps : List (Int × Int)) : List Bar := ps.filterMap (ndB kvs)
theorem ndBars_snoc (kvs ps : List (Int × Int)) (p : Int × Int) : ndBars kvs (ps ++ [p]) = ndBars kvs ps ++ (ndB kvs p).toList := by
  unfold ndBars
  rw [List.filterMap_append]
  cases h : ndB kvs p <;> simp [h]
theorem ndBars_len (kvs ps : List (Int × Int)) : (ndBars kvs ps).length ≤ ps.length := List.length_filterMap_le _ _
section
variable {P : Program} {w : World} {K : PySem.W.Frag} {mg : Str → Option Value} {base : Heap} {f : Addr} {fd : FuncData}
/-! ### Needs.bars_in -/
def sp_Needs_bars_in (C : Addr) (K : PySem.W.Frag) : Sp := fun vs H Q _ => ∃ (x : V) (a : Addr) (kvs ps : List (Int × Int)), vs = [x, .ref a] ∧ NdI C H x ps ∧ Bk H a kvs ∧ (∀ p ∈ ps, p.1 ≠ p.2) ∧ ps.length ≤ 100 ∧ (ndBars kvs ps).Pairwise ltB ∧
  ∀ p H', Same H H' → H p = none → Brs H' p (ndBars kvs ps) → Q (.ref p) H'
theorem ok_Needs_bars_in {C : Addr} (F : FnP K "bars_in" "Needs.bars_in" s_Needs_bars_in f fd) (B : BT mg) (hC : Cls K C) (n1 : NoAttr K C "_pairs") (G_value_at : Has P w K mg base CX0 1 "value_at" (sp_value_at K)) (G_bar_of : Has P w K mg base CX0 1 "bar_of" (sp_bar_of K)) (G_bars_in_order : Has P w K mg base CX0 1 "bars_in_order" (sp_bars_in_order K)) :
    FnOk P w K mg base CX0 3 f fd ["self", "book"] (sp_Needs_bars_in C K) := by
  refine okN F sc_Needs_bars_in (fun vs H Q E h => ?_) (fun cdv A outer s H vs Q E hr h => ?_)
  · obtain ⟨_, _, _, _, rfl, _⟩ := h
    rfl
  obtain ⟨_, b, kvs, ps, rfl, ⟨x, dx, l, pl, wd, rfl, hx, xs, hL, hp⟩, hB, hne, hl, pw, hQ⟩ := h
  have hxl : xs.length = ps.length := Paired.length hp
  refine ⟨_, pss_cons (ps_set (i := 2) sc_Needs_bars_in.nd rfl (.inl rfl) (pe_lst pa_nil))
    (pss_cons (ps_for PassesOwn.never rfl (pi_list (pe_fld (pv 0) rfl)) (pg_tup rfl (pgs_cons (pg_name (i := 3) sc_Needs_bars_in.nd rfl (Or.inl rfl)) (pgs_cons (pg_name (i := 4) sc_Needs_bars_in.nd rfl (Or.inl rfl)) pgs_nil)))
     (pss_one (ps_if (PW.pt (pw_and (pt_cmpR op_gt (pe_c G_value_at hr (pa_cons (pv 1) (pa_cons (pv 3) pa_nil))) pe_int (nomark _)) (pw_and1 (pt_cmpR op_eq (pe_c G_value_at hr (pa_cons (pv 1) (pa_cons (pv 4) pa_nil))) pe_int (nomark _)))))
      (pss_one (ps_expr (pe_bm PySem.F.plainAttrs_list PySem.F.slot_list_append PySem.F.type_list_append mt_append (pv 2) (pa_cons (pe_c G_bar_of hr (pa_cons (pe_lst (pa_cons (pe_tup (pa_cons (pv 3) (pa_cons (pe_c G_value_at hr (pa_cons (pv 1) (pa_cons (pv 3) pa_nil))) pa_nil))) (pa_cons (pe_tup (pa_cons (pv 4) (pa_cons pe_int pa_nil))) pa_nil))) pa_nil)) pa_nil))))
      pss_nil)))
    (pss_one (ps_ret (pe_c G_bars_in_order hr (pa_cons (pv 2) pa_nil))))), ?_⟩
  refine ⟨szr, fun D nD => ?_⟩
  have sD := same_upd (o := .lst []) nD
  refine ⟨_, rfl, x, C, dx, _, _, rfl, sD _ _ hx, hC, n1, rfl, l, rfl, ⟨xs, SqL.of (sD _ _ hL)⟩, ?_⟩
  refine for_it (walk_list (xs := xs)) (fun i σ H' => (∃ u v, σ = [some (.ref x), some (.ref b), some (.ref D), u, v]) ∧ Brs H' D (ndBars kvs (ps.take i)) ∧ Same H H') ⟨⟨_, _, rfl⟩, ⟨_, upd_same, .nil⟩, sD⟩ (fun i σ H' _ p => p.2.2.seq (SqL.of hL)) ?_ ?_
  · rintro i y σ H1 H2 hi ⟨⟨u, v, rfl⟩, ⟨zs, hz, hzp⟩, hs⟩ ⟨rfl, hy⟩
    obtain ⟨p, hp1, t, rfl, ht⟩ := paired_at hp hy
    have hB2 : Bk H2 b kvs := hs _ _ hB
    refine ⟨t, _, rfl, SqT.of (hs _ _ ht), rfl, _, _, rfl, _, _, rfl, rfl, ?_⟩
    have ts := take_snoc hp1
    have no : ¬ (0 < gv kvs p.1 ∧ gv kvs p.2 = 0) → Brs H2 D (ndBars kvs (ps.take (i + 1))) := by
      intro h
      rw [ts, ndBars_snoc]
      rw [show ndB kvs p = none from if_neg h]
      simp only [Option.toList_none, List.append_nil]
      exact ⟨zs, hz, hzp⟩
    refine ⟨_, rfl, _, rfl, b, kvs, _, rfl, hB2, _, _, rfl, rfl, _, rfl, ?_⟩
    refine ite2 (fun h0 => ?_) (fun h0 => ?_)
    · have h0' : 0 < gv kvs p.1 := by simpa [gv] using h0
      refine ⟨_, rfl, _, rfl, b, kvs, _, rfl, hB2, rfl, _, rfl, ?_⟩
      rw [dec_int]
      refine ite2 (fun h1 => ?_) (fun h1 => ?_)
      · have h1' : gv kvs p.2 = 0 := by simpa [gv] using h1
        have yes : ndB kvs p = some (if p.1 < p.2 then ((p.1, gv kvs p.1), (p.2, 0)) else ((p.2, 0), (p.1, gv kvs p.1))) := if_pos ⟨h0', h1'⟩
        refine ⟨_, rfl, tyL (SqL.of hz), ?_⟩
        refine ⟨_, rfl, _, rfl, _, rfl, b, kvs, _, rfl, hB2, szr, fun t1 n1 => ?_⟩
        have s1 := same_upd (o := .tup [.int p.1, .int ((get kvs p.1).getD 0)]) n1
        refine ⟨_, rfl, szr, fun t2 n2 => ?_⟩
        have s2 := same_upd (o := .tup [.int p.2, .int 0]) n2
        refine ⟨szr, fun t3 n3 => ?_⟩
        have s3 := same_upd (o := .lst [V.ref t1, V.ref t2]) n3
        generalize hH3 : upd (upd (upd H2 t1 (.tup [.int p.1, .int ((get kvs p.1).getD 0)])) t2 (.tup [.int p.2, .int 0])) t3 (.lst [V.ref t1, V.ref t2]) = H3 at s3
        have e1 : H3 t1 = some (.tup [.int p.1, .int ((get kvs p.1).getD 0)]) := s3 _ _ (s2 _ _ upd_same)
        have e2 : H3 t2 = some (.tup [.int p.2, .int 0]) := s3 _ _ upd_same
        have e3 : H3 t3 = some (.lst [V.ref t1, V.ref t2]) := by rw [← hH3]; exact upd_same
        refine ⟨t3, _, _, (p.1, gv kvs p.1), (p.2, 0), rfl, e3, ⟨t1, rfl, e1⟩, ⟨t2, rfl, e2⟩, hne p (List.mem_of_getElem? hp1), fun r H4 s4 nr hr4 => ?_⟩
        have sA := ((s1.trans s2).trans s3).trans s4
        have hz4 : H4 D = some (.lst zs) := sA _ _ hz
        refine ⟨D, zs, _, rfl, rfl, hz4, szl ?_, ⟨_, _, rfl⟩, ⟨_, upd_same, ?_⟩, same_put (hs.trans sA) nD⟩
        · have := ndBars_len kvs (ps.take i)
          rw [Paired.length hzp]
          rw [List.length_take] at this
          omega
        · rw [ts, ndBars_snoc, yes]
          refine paired_snoc (paired_mono (fun _ _ z => (z.same sA).put hz4 (fun _ z => nomatch z)) hzp) ?_
          refine Br.put hz4 (fun _ z => nomatch z) ?_
          by_cases lt : p.1 < p.2
          · have hr4' : H4 r = some (.tup [V.ref t1, V.ref t2]) := by rw [hr4, if_pos lt]
            rw [if_pos lt]
            exact ⟨r, _, _, rfl, hr4', ⟨t1, rfl, s4 _ _ e1⟩, ⟨t2, rfl, s4 _ _ e2⟩⟩
          · have hr4' : H4 r = some (.tup [V.ref t2, V.ref t1]) := by rw [hr4, if_neg lt]
            rw [if_neg lt]
            exact ⟨r, _, _, rfl, hr4', ⟨t2, rfl, s4 _ _ e2⟩, ⟨t1, rfl, s4 _ _ e1⟩⟩
      · have h1' : ¬ gv kvs p.2 = 0 := by simpa [gv] using h1
        exact ⟨⟨_, _, rfl⟩, no (fun h => h1' h.2), hs⟩
    · have h0' : ¬ 0 < gv kvs p.1 := by simpa [gv] using h0
      exact iteF ⟨⟨_, _, rfl⟩, no (fun h => h0' h.1), hs⟩
  · rintro σ H1 ⟨⟨u, v, rfl⟩, hb, hs⟩
    rw [hxl, List.take_length] at hb
    refine ⟨_, rfl, D, _, rfl, hb, pw, ?_, fun t H2 h2 n2 hbr => hQ t H2 (hs.trans h2) (hs.free n2) hbr⟩
    have := ndBars_len kvs ps
    omega
end
end K80
end
section
set_option maxHeartbeats 4000000
namespace K80
open PySem PySem.Spec PyProof.Rows L2 Inf
def posPl (n : Nat) : List Int := (List.range n).map fun (j : Nat) => 2 * (1 + (j : Int))
def prs (j : Nat) : List (Int × Int) := [(2 * (1 + (j : Int)), 2 * (1 + (j : Int)) + 1), (2 * (1 + (j : Int)) + 1, 2 * (1 + (j : Int)))]
def pairsN (n : Nat) : List (Int × Int) := (List.range n).flatMap prs
theorem posPl_succ (n : Nat) : posPl (n + 1) = posPl n ++ [2 * (1 + (n : Int))] := by
  unfold posPl
  rw [List.range_succ, List.map_append]
  rfl
theorem pairsN_succ (n : Nat) : pairsN (n + 1) = pairsN n ++ prs n := by
  unfold pairsN
  rw [List.range_succ, List.flatMap_append, List.flatMap_singleton]
theorem posPl_len (n : Nat) : (posPl n).length = n := by simp [posPl]
theorem pairsN_len (n : Nat) : (pairsN n).length = 2 * n := by
  induction n with
  | zero => rfl
  | succ n ih => rw [pairsN_succ, List.length_append, ih]; rfl
theorem posPl_lt : ∀ n : Nat, (posPl n).Pairwise (· < ·) ∧ ∀ x ∈ posPl n, x < 2 * (1 + (n : Int))
  | 0 => ⟨.nil, fun x h => by cases h⟩
  | n + 1 => by
    obtain ⟨h1, h2⟩ := posPl_lt n
    rw [posPl_succ]
    refine ⟨List.pairwise_append.mpr ⟨h1, List.pairwise_singleton _ _, fun a ha b hb => ?_⟩, fun x hx => ?_⟩
    · rw [List.mem_singleton.mp hb]
      exact h2 a ha
    · rcases List.mem_append.mp hx with h | h
      · have := h2 x h
        omega
      · rw [List.mem_singleton.mp h]
        omega
theorem pairsN_ne (n : Nat) : ∀ p ∈ pairsN n, p.1 ≠ p.2 := by
  intro p hp
  obtain ⟨j, _, h⟩ := List.mem_flatMap.mp hp
  rcases List.mem_cons.mp h with rfl | h
  · simp only; omega
  · rw [List.mem_singleton.mp h]; simp only; omega
/-- a rulebook with its two rules -/
def Rows2 (H : Hp) (l : Addr) (k1 k2 : Str) (y1 y2 : V) : Prop := ∃ t1 t2, H l = some (.lst [.ref t1, .ref t2]) ∧ H t1 = some (.tup [.str k1, y1]) ∧ H t2 = some (.tup [.str k2, y2])
theorem Rows2.same {H H' : Hp} (e : Same H H') {l : Addr} {k1 k2 : Str} {y1 y2 : V} (h : Rows2 H l k1 k2 y1 y2) : Rows2 H' l k1 k2 y1 y2 := let ⟨t1, t2, a, b, c⟩ := h; ⟨t1, t2, e _ _ a, e _ _ b, e _ _ c⟩
def RbI (CR CA CN : Addr) (H : Hp) (x : V) (n : Nat) : Prop := ∃ a dx l y1 y2, x = .ref a ∧ H a = some (.ins CR dx [("_rows", .ref l)]) ∧ Rows2 H l "apart" "whole" y1 y2 ∧ ApI CA H y1 (posPl n) ∧ NdI CN H y2 (pairsN n)
theorem RbI.same {CR CA CN : Addr} {H H' : Hp} (e : Same H H') {x : V} {n : Nat} (h : RbI CR CA CN H x n) : RbI CR CA CN H' x n :=
  let ⟨a, dx, l, y1, y2, h1, h2, h3, h4, h5⟩ := h; ⟨a, dx, l, y1, y2, h1, e _ _ h2, h3.same e, h4.same e, h5.same e⟩
/-- what is broken in a book, told by the rulebook -/
def rz (kvs : List (Int × Int)) (n : Nat) : Option (Str × Bar) := match (eqBars (marks kvs (posPl n))).head? with
  | some b => some ("apart", b)
  | none => match (ndBars kvs (pairsN n)).head? with
    | some b => some ("whole", b)
    | none => none
def Rz (H : Hp) (v : V) : Option (Str × Bar) → Prop
  | none => v = .non
  | some p => ∃ t y, v = .ref t ∧ H t = some (.tup [.str p.1, y]) ∧ Br H y p.2
section
variable {P : Program} {w : World} {K : PySem.W.Frag} {mg : Str → Option Value} {base : Heap} {f : Addr} {fd : FuncData}
/-! ### Needs.reason -/
def sp_Needs_reason (C : Addr) (K : PySem.W.Frag) : Sp := fun vs H Q _ => ∃ (x : V) (a : Addr) (kvs ps : List (Int × Int)), vs = [x, .ref a] ∧ NdI C H x ps ∧ Bk H a kvs ∧ (∀ p ∈ ps, p.1 ≠ p.2) ∧ ps.length ≤ 100 ∧ (ndBars kvs ps).Pairwise ltB ∧
  ∀ v H', Same H H' → Fst H' v (ndBars kvs ps).head? → Q v H'
theorem ok_Needs_reason {C : Addr} (F : FnP K "reason" "Needs.reason" s_Needs_reason f fd) (G_first_of : Has P w K mg base CX0 1 "first_of" (sp_first_of K)) (M_Needs_bars_in : HasM P w K mg base CX0 3 C "bars_in" (sp_Needs_bars_in C K)) :
    FnOk P w K mg base CX0 4 f fd ["self", "book"] (sp_Needs_reason C K) := by
  refine okN F sc_Needs_reason (fun vs H Q E h => ?_) (fun cdv A outer s H vs Q E hr h => ?_)
  · obtain ⟨_, _, _, _, rfl, _⟩ := h
    rfl
  obtain ⟨_, b, kvs, ps, rfl, ⟨x, dx, l, pl, wd, rfl, hx, hM⟩, hB, hne, hl, pw, hQ⟩ := h
  refine ⟨_, pss_one (ps_ret (pe_c G_first_of hr (pa_cons (pe_mt M_Needs_bars_in hr (pv 0) (pa_cons (pv 1) pa_nil)) pa_nil))), ?_⟩
  refine ⟨_, rfl, x, dx, _, rfl, hx, rfl, _, rfl, _, b, kvs, ps, rfl, ⟨x, dx, l, pl, wd, rfl, hx, hM⟩, hB, hne, hl, pw, fun p H1 hs np ⟨xs, hL, hp⟩ => ?_⟩
  exact ⟨p, xs, rfl, hL, hQ _ _ hs (fst_of hp)⟩
/-! ### RuleBook.__init__ -/
def sp_RuleBook_init (C : Addr) (K : PySem.W.Frag) : Sp := fun vs H Q _ => ∃ (x dx l : Addr) (k1 k2 : Str) (y1 y2 : V), vs = [.ref x, .ref l] ∧ H x = some (.ins C dx []) ∧ Rows2 H l k1 k2 y1 y2 ∧ k1 ≠ k2 ∧
  ∀ H' l', SameBut x H H' → H' x = some (.ins C dx [("_rows", .ref l')]) → Rows2 H' l' k1 k2 y1 y2 → Q .non H'
theorem ok_RuleBook_init {C : Addr} (F : FnP K "__init__" "RuleBook.__init__" s_RuleBook_init f fd) (B : BT mg) (hC : Cls K C) (n1 : NoAttr K C "_rows") (G_first_repeated : Has P w K mg base CX0 1 "first_repeated" (sp_first_repeated K)) :
    FnOk P w K mg base CX0 2 f fd ["self", "rules"] (sp_RuleBook_init C K) := by
  refine okN F sc_RuleBook_init (fun vs H Q E h => ?_) (fun cdv A outer s H vs Q E hr h => ?_)
  · obtain ⟨_, _, _, _, _, _, _, rfl, _⟩ := h
    rfl
  obtain ⟨x, dx, l, k1, k2, y1, y2, rfl, hx, ⟨t1, t2, hL, ht1, ht2⟩, hk, hQ⟩ := h
  refine ⟨_, pss_cons (ps_fld (pv 0) (pe_lc (own := [("key", 3), ("rule", 4)]) (tt := tYes) rfl sc_RuleBook_init.nd (pi_list (pv 1)) (blkOk_by (own := [("key", 3), ("rule", 4)]) (N := ["self", "rules", "position", "key", "rule", "_"]) (sc := defScope s_RuleBook_init) (by decide +kernel)) (fun _ _ _ _ _ => (pgTup (n := 2) K rfl (pgs_cons (pg_name (i := 3) sc_RuleBook_init.nd rfl (Or.inl rfl)) (pgs_cons (pg_name (i := 4) sc_RuleBook_init.nd rfl (Or.inl rfl)) pgs_nil)))) (fun _ _ _ _ _ => pts_nil) (fun _ _ _ _ _ => (pe_tup (pa_cons (pv 3) (pa_cons (pv 4) pa_nil))))) rfl)
    (pss_cons (ps_set (i := 2) sc_RuleBook_init.nd rfl (.inl rfl) (pe_c G_first_repeated hr (pa_cons (pe_lc (own := [("key", 3), ("_", 5)]) (tt := tYes) rfl sc_RuleBook_init.nd (pi_list (pe_fld (pv 0) rfl)) (blkOk_by (own := [("key", 3), ("_", 5)]) (N := ["self", "rules", "position", "key", "rule", "_"]) (sc := defScope s_RuleBook_init) (by decide +kernel)) (fun _ _ _ _ _ => (pgTup (n := 2) K rfl (pgs_cons (pg_name (i := 3) sc_RuleBook_init.nd rfl (Or.inl rfl)) (pgs_cons (pg_name (i := 5) sc_RuleBook_init.nd rfl (Or.inl rfl)) pgs_nil)))) (fun _ _ _ _ _ => pts_nil) (fun _ _ _ _ _ => (pv 3))) pa_nil)))
    (pss_one (ps_if (pt_cmpR op_ge (pv 2) pe_int (nomark _))
     (pss_one ps_never)
     pss_nil))), ?_⟩
  refine ⟨_, rfl, l, rfl, ⟨_, SqL.of hL⟩, fun D nD => ?_⟩
  have hxD : D ≠ x := fun e => by subst e; rw [hx] at nD; cases nD
  -- the rows so far
  let rowsAt : Nat → Hp → Prop := fun i H' => ∃ zs, H' D = some (.lst zs) ∧ Paired (fun (v : V) (p : Str × V) => ∃ t, v = .ref t ∧ H' t = some (.tup [.str p.1, p.2])) zs ([(k1, y1), (k2, y2)].take i)
  have hrow : ∀ (i : Nat) (y : V), ([V.ref t1, V.ref t2] : List V)[i]? = some y → ∃ p : Str × V, [(k1, y1), (k2, y2)][i]? = some p ∧ ∃ t, y = .ref t ∧ H t = some (.tup [.str p.1, p.2]) := by
    intro i y h
    match i, h with
    | 0, h => cases h; exact ⟨_, rfl, t1, rfl, ht1⟩
    | 1, h => cases h; exact ⟨_, rfl, t2, rfl, ht2⟩
    | n + 2, h => simp at h
  refine lc_it (walk_list (xs := [V.ref t1, V.ref t2])) (fun i H' => rowsAt i H' ∧ Same H H') ⟨⟨_, upd_same, .nil⟩, same_upd nD⟩ (fun i H' _ p => p.2.seq (SqL.of hL)) ?_ ?_
  · rintro i y H2 H3 hi ⟨⟨ws, hw, hwp⟩, h2⟩ ⟨rfl, hy⟩
    obtain ⟨p, hp1, t, rfl, ht⟩ := hrow i y hy
    refine ⟨t, _, rfl, SqT.of (h2 _ _ ht), rfl, _, _, rfl, _, _, rfl, rfl, rfl, ?_⟩
    refine yes_go (iteT ?_)
    refine ⟨_, rfl, _, rfl, szr, fun q nq => ?_⟩
    have s3 := same_upd (o := .tup [.str p.1, p.2]) nq
    have hi2 : i < 2 := hi
    refine ⟨ws, s3 _ _ hw, szl ?_, ⟨_, upd_same, ?_⟩, same_put (h2.trans s3) nD⟩
    · rw [Paired.length hwp, List.length_take]
      omega
    · rw [take_snoc hp1]
      refine paired_snoc (paired_mono ?_ hwp) ⟨q, rfl, ?_⟩
      · rintro v p ⟨t, e, h⟩
        refine ⟨t, e, ?_⟩
        rw [upd_ne (fun e => by subst e; rw [hw] at h; cases h)]
        exact s3 _ _ h
      · rw [upd_ne (fun e => by subst e; rw [hw] at nq; cases nq)]
        exact upd_same
  · rintro H2 ⟨⟨ws, hw, hwp⟩, h2⟩
    refine ⟨_, rfl, x, C, dx, [], rfl, h2 _ _ hx, hC, n1, by decide, ?_⟩
    generalize hH3 : upd H2 x (.ins C dx (putF "_rows" (.ref D) [])) = H3
    have hx3 : H3 x = some (.ins C dx [("_rows", .ref D)]) := by rw [← hH3, upd_same]; rfl
    have b3 : SameBut x H H3 := fun b o n e => by rw [← hH3, upd_ne n]; exact h2 _ _ e
    have hw3 : H3 D = some (.lst ws) := by rw [← hH3, upd_ne hxD]; exact hw
    have hwp3 : Paired (fun (v : V) (p : Str × V) => ∃ t, v = .ref t ∧ H3 t = some (.tup [.str p.1, p.2])) ws [(k1, y1), (k2, y2)] := by
      refine paired_mono ?_ hwp
      rintro v p ⟨t, e, h⟩
      refine ⟨t, e, ?_⟩
      rw [← hH3, upd_ne (fun e => by subst e; rw [h2 _ _ hx] at h; cases h)]
      exact h
    obtain ⟨s1, s2, rfl, hs1, hs2⟩ : ∃ s1 s2, ws = [.ref s1, .ref s2] ∧ H3 s1 = some (.tup [.str k1, y1]) ∧ H3 s2 = some (.tup [.str k2, y2]) := by
      cases hwp3 with
      | cons a b =>
        cases b with
        | cons c d =>
          cases d
          obtain ⟨s1, rfl, e1⟩ := a
          obtain ⟨s2, rfl, e2⟩ := c
          exact ⟨s1, s2, rfl, e1, e2⟩
    refine ⟨_, rfl, x, C, dx, _, _, rfl, hx3, hC, n1, rfl, D, rfl, ⟨_, SqL.of hw3⟩, fun Z nZ => ?_⟩
    have keyAt : ∀ (i : Nat) (y : V), ([V.ref s1, V.ref s2] : List V)[i]? = some y → ∃ k : Str, [V.str k1, V.str k2][i]? = some (.str k) ∧ ∃ t r, y = .ref t ∧ H3 t = some (.tup [.str k, r]) := by
      intro i y h
      match i, h with
      | 0, h => cases h; exact ⟨_, rfl, s1, _, rfl, hs1⟩
      | 1, h => cases h; exact ⟨_, rfl, s2, _, rfl, hs2⟩
      | n + 2, h => simp at h
    refine lc_it (walk_list (xs := [V.ref s1, V.ref s2])) (fun i H' => H' Z = some (.lst ([V.str k1, V.str k2].take i)) ∧ Same H3 H') ⟨upd_same, same_upd nZ⟩ (fun i H' _ p => p.2.seq (SqL.of hw3)) ?_ ?_
    · rintro i y H4 H5 hi ⟨hz, h4⟩ ⟨rfl, hy⟩
      obtain ⟨k, hk1, t, r, rfl, ht⟩ := keyAt i y hy
      refine ⟨t, _, rfl, SqT.of (h4 _ _ ht), rfl, _, _, rfl, _, _, rfl, rfl, rfl, ?_⟩
      refine yes_go (iteT ?_)
      refine ⟨_, rfl, _, hz, szl ?_, ?_, same_put h4 nZ⟩
      · rw [List.length_take]
        have hi2 : i < 2 := hi
        omega
      · rw [upd_same, take_snoc hk1]
    · rintro H4 ⟨hz, h4⟩
      refine ⟨Z, [.str k1, .str k2], rfl, SqL.of hz, rfl, ?_, fun H5 h5 => ?_⟩
      · intro i j u v hij hu hv
        match i, j, hij, hu, hv with
        | 0, 1, _, hu, hv =>
          cases hu
          cases hv
          exact beq_eq_false_iff_ne.mpr hk
        | 0, n + 2, _, hu, hv => simp at hv
        | 1, n + 2, _, hu, hv => simp at hv
        | 1, 0, h, _, _ => omega
        | 1, 1, h, _, _ => omega
        | m + 2, _, _, hu, _ => simp at hu
        | 0, 0, h, _, _ => omega
      · refine ⟨_, rfl, _, _, rfl, rfl, _, rfl, iteF ?_⟩
        have s5 := h4.trans h5
        exact hQ H5 D (b3.trans (SameBut.of s5)) (s5 _ _ hx3) ⟨s1, s2, s5 _ _ hw3, s5 _ _ hs1, s5 _ _ hs2⟩
end
end K80
end
section
set_option maxHeartbeats 4000000
namespace K80
open PySem PySem.Spec PyProof.Rows L2 Inf
section
variable {P : Program} {w : World} {K : PySem.W.Frag} {mg : Str → Option Value} {base : Heap} {f : Addr} {fd : FuncData}
/-! ### RuleBook.reason -/
/-- the bars of missing halves stand in order -/
def NdOk (kvs : List (Int × Int)) (n : Nat) : Prop := (ndBars kvs (pairsN n)).Pairwise ltB
def sp_RuleBook_reason (CR CA CN : Addr) (K : PySem.W.Frag) : Sp := fun vs H Q _ => ∃ (x : V) (a : Addr) (kvs : List (Int × Int)) (n : Nat), vs = [x, .ref a] ∧ RbI CR CA CN H x n ∧ Bk H a kvs ∧ n ≤ 30 ∧ NdOk kvs n ∧
  ∀ v H', Same H H' → Rz H' v (rz kvs n) → Q v H'
theorem Fst.none {H : Hp} {x : V} {o : Option Bar} (h : Fst H x o) : decide (x = .non) = o.isNone := by
  cases o with
  | none => rw [show x = .non from h]; rfl
  | some b =>
    obtain ⟨t, x1, x2, e, _⟩ := (show Br H x b from h)
    rw [e]
    rfl
theorem ok_RuleBook_reason {CR CA CN : Addr} (F : FnP K "reason" "RuleBook.reason" s_RuleBook_reason f fd) (hC : Cls K CR) (n1 : NoAttr K CR "_rows")
    (M_Apart_reason : HasM P w K mg base CX0 4 CA "reason" (sp_Apart_reason CA K)) (M_Needs_reason : HasM P w K mg base CX0 4 CN "reason" (sp_Needs_reason CN K)) :
    FnOk P w K mg base CX0 5 f fd ["self", "book"] (sp_RuleBook_reason CR CA CN K) := by
  refine okN F sc_RuleBook_reason (fun vs H Q E h => ?_) (fun cdv A outer s H vs Q E hr h => ?_)
  · obtain ⟨_, _, _, _, rfl, _⟩ := h
    rfl
  obtain ⟨_, b, kvs, n, rfl, ⟨x, dx, l, y1, y2, rfl, hx, ⟨t1, t2, hL, ht1, ht2⟩, hA, hN⟩, hB, hn, ok, hQ⟩ := h
  refine ⟨_, pss_cons (ps_for PassesOwn.never rfl (pi_list (pe_fld (pv 0) rfl)) (pg_tup rfl (pgs_cons (pg_name (i := 2) sc_RuleBook_reason.nd rfl (Or.inl rfl)) (pgs_cons (pg_name (i := 3) sc_RuleBook_reason.nd rfl (Or.inl rfl)) pgs_nil)))
     (pss_cons (ps_set (i := 4) sc_RuleBook_reason.nd rfl (.inl rfl) (pe_or2 (pe_mt M_Apart_reason hr (pv 3) (pa_cons (pv 1) pa_nil)) (pe_mt M_Needs_reason hr (pv 3) (pa_cons (pv 1) pa_nil))))
     (pss_one (ps_if (pt_cmp (pc_notN (pv 4)))
      (pss_one (ps_ret (pe_tup (pa_cons (pv 2) (pa_cons (pv 4) pa_nil)))))
      pss_nil))))
    (pss_one (ps_ret pe_non)), ?_⟩
  refine ⟨_, rfl, x, CR, dx, _, _, rfl, hx, hC, n1, rfl, l, rfl, ⟨_, SqL.of hL⟩, ?_⟩
  refine for_it (walk_list (xs := [V.ref t1, V.ref t2])) (fun i σ H' => (∃ u v z, σ = [some (.ref x), some (.ref b), u, v, z]) ∧ Same H H' ∧ (1 ≤ i → (eqBars (marks kvs (posPl n))).head? = none) ∧ (2 ≤ i → (ndBars kvs (pairsN n)).head? = none)) ⟨⟨_, _, _, rfl⟩, Same.refl _, fun h => by omega, fun h => by omega⟩ (fun i σ H' _ p => p.2.1.seq (SqL.of hL)) ?_ ?_
  · rintro i y σ H1 H2 hi ⟨⟨u, v, z, rfl⟩, hs, c1, c2⟩ ⟨rfl, hy⟩
    have hB2 : Bk H2 b kvs := hs _ _ hB
    match i, hi, hy, c1, c2 with
    | 0, _, hy, c1, c2 =>
      cases hy
      refine ⟨t1, _, rfl, SqT.of (hs _ _ ht1), rfl, _, _, rfl, _, _, rfl, rfl, ?_⟩
      have hA2 := hA.same hs
      obtain ⟨a, dxa, pl, wd, rfl, ha, hpl⟩ := hA2
      refine .inl ⟨_, rfl, a, dxa, _, rfl, ha, rfl, _, rfl, _, b, kvs, posPl n, rfl, ⟨a, dxa, pl, wd, rfl, ha, hpl⟩, hB2, (posPl_lt n).1, by rw [posPl_len]; omega, fun v H3 h3 hf => ?_⟩
      refine ⟨_, rfl, _, rfl, ?_⟩
      rw [hf.none]
      cases hh : (eqBars (marks kvs (posPl n))).head? with
      | none =>
        exact iteF ⟨⟨_, _, _, rfl⟩, hs.trans h3, fun _ => rfl, fun h => by omega⟩
      | some bb =>
        rw [hh] at hf
        refine iteT ⟨_, rfl, _, rfl, szr, fun t nt => ?_⟩
        have s4 := same_upd (o := .tup [.str "apart", v]) nt
        refine hQ _ _ ((hs.trans h3).trans s4) ?_
        have e : rz kvs n = some (("apart" : Str), bb) := by unfold rz; rw [hh]
        rw [e]
        exact ⟨t, v, rfl, upd_same, Br.same s4 hf⟩
    | 1, _, hy, c1, c2 =>
      cases hy
      refine ⟨t2, _, rfl, SqT.of (hs _ _ ht2), rfl, _, _, rfl, _, _, rfl, rfl, ?_⟩
      have hN2 := hN.same hs
      obtain ⟨a, dxa, l2, pl, wd, rfl, ha, hpl⟩ := hN2
      refine .inr ⟨_, rfl, a, dxa, _, rfl, ha, rfl, _, rfl, _, b, kvs, pairsN n, rfl, ⟨a, dxa, l2, pl, wd, rfl, ha, hpl⟩, hB2, pairsN_ne n, by rw [pairsN_len]; omega, ok, fun v H3 h3 hf => ?_⟩
      refine ⟨_, rfl, _, rfl, ?_⟩
      rw [hf.none]
      cases hh : (ndBars kvs (pairsN n)).head? with
      | none =>
        exact iteF ⟨⟨_, _, _, rfl⟩, hs.trans h3, fun _ => c1 (Nat.le_refl _), fun _ => rfl⟩
      | some bb =>
        rw [hh] at hf
        refine iteT ⟨_, rfl, _, rfl, szr, fun t nt => ?_⟩
        have s4 := same_upd (o := .tup [.str "whole", v]) nt
        refine hQ _ _ ((hs.trans h3).trans s4) ?_
        have e : rz kvs n = some (("whole" : Str), bb) := by unfold rz; rw [c1 (Nat.le_refl _), hh]
        rw [e]
        exact ⟨t, v, rfl, upd_same, Br.same s4 hf⟩
    | m + 2, hi, _, _, _ => exact absurd hi (by simp)
  · rintro σ H1 ⟨⟨u, v, z, rfl⟩, hs, c1, c2⟩
    have e : rz kvs n = none := by
      unfold rz
      rw [c1 (by simp), c2 (by simp)]
    exact hQ _ _ hs (by rw [e]; rfl)
/-! ### item_rules -/
def sp_item_rules (CR CA CN : Addr) : Sp := fun vs H Q _ => ∃ (n : Nat), vs = [.int n] ∧ n ≤ 30 ∧ ∀ x H', Same H H' → RbI CR CA CN H' x n → Q x H'
theorem same_made {H : Hp} {x dx C : Addr} (nx : H x = none) (nd : H dx = none) {H2 : Hp} (h : SameBut x (upd (upd H dx (.own x)) x (.ins C dx [])) H2) : Same H H2 := fun b o e => by
  have n1 := ne_of_none e nx
  have n2 := ne_of_none e nd
  exact h b o n1 (by rw [upd_ne n1, upd_ne n2]; exact e)
theorem ok_item_rules {CR CA CN : Addr} (F : FnP K "item_rules" "item_rules" s_item_rules f fd) (B : BT mg) (G_position_place : Has P w K mg base CX0 1 "position_place" sp_position_place) (G_content_place : Has P w K mg base CX0 1 "content_place" sp_content_place)
    (M_Apart : HasC P w K mg base CX0 3 "Apart" CA (sp_Apart_init CA K)) (M_Needs : HasC P w K mg base CX0 1 "Needs" CN (sp_Needs_init CN K)) (M_RuleBook : HasC P w K mg base CX0 2 "RuleBook" CR (sp_RuleBook_init CR K)) :
    FnOk P w K mg base CX0 5 f fd ["count"] (sp_item_rules CR CA CN) := by
  refine okN F sc_item_rules (fun vs H Q E h => ?_) (fun cdv A outer s H vs Q E hr h => ?_)
  · obtain ⟨_, rfl, _⟩ := h
    rfl
  obtain ⟨n, rfl, hn, hQ⟩ := h
  refine ⟨_, pss_cons (ps_set (i := 1) sc_item_rules.nd rfl (.inl rfl) (pe_lst pa_nil))
    (pss_cons (ps_for PassesOwn.never rfl (pi_range2 rfl B.range (pa_cons pe_int (pa_cons (pe_op op_add (pv 0) pe_int) pa_nil))) (pg_name (i := 2) sc_item_rules.nd rfl (Or.inl rfl))
     (pss_cons (ps_expr (pe_bm PySem.F.plainAttrs_list PySem.F.slot_list_append PySem.F.type_list_append mt_append (pv 1) (pa_cons (pe_tup (pa_cons (pe_c G_position_place hr (pa_cons (pv 2) pa_nil)) (pa_cons (pe_c G_content_place hr (pa_cons (pv 2) pa_nil)) pa_nil))) pa_nil)))
     (pss_one (ps_expr (pe_bm PySem.F.plainAttrs_list PySem.F.slot_list_append PySem.F.type_list_append mt_append (pv 1) (pa_cons (pe_tup (pa_cons (pe_c G_content_place hr (pa_cons (pv 2) pa_nil)) (pa_cons (pe_c G_position_place hr (pa_cons (pv 2) pa_nil)) pa_nil))) pa_nil))))))
    (pss_cons (ps_set (i := 3) sc_item_rules.nd rfl (.inl rfl) (pe_mk M_Apart hr (pa_cons (pe_lc (own := [("item", 2)]) (g := gName 2) (tt := tYes) rfl sc_item_rules.nd (pi_range2 rfl B.range (pa_cons pe_int (pa_cons (pe_op op_add (pv 0) pe_int) pa_nil))) (blkOk_by (own := [("item", 2)]) (N := ["count", "pairs", "item", "apart"]) (sc := defScope s_item_rules) (by decide +kernel)) (fun _ _ _ _ _ => (pg_name (i := 2) sc_item_rules.nd rfl (Or.inl rfl))) (fun _ _ _ _ _ => pts_nil) (fun _ _ _ _ _ => (pe_c G_position_place hr (pa_cons (pv 2) pa_nil)))) pa_nil)))
    (pss_one (ps_ret (pe_mk M_RuleBook hr (pa_cons (pe_lst (pa_cons (pe_tup (pa_cons pe_str (pa_cons (pv 3) pa_nil))) (pa_cons (pe_tup (pa_cons pe_str (pa_cons (pe_mk M_Needs hr (pa_cons (pv 1) pa_nil)) pa_nil))) pa_nil))) pa_nil)))))), ?_⟩
  refine ⟨szr, fun D nD => ?_⟩
  have sD := same_upd (o := .lst []) nD
  refine ⟨_, rfl, _, _, rfl, rfl, _, _, rfl, ⟨by decide, by decide, by omega, by omega⟩, ?_⟩
  rw [show ((n : Int) + 1 - 1).toNat = n from by omega]
  refine for_it walk_range (fun i σ H' => (∃ u, σ = [some (.int n), some (.ref D), u, none]) ∧ Ms H' D (pairsN i) ∧ Same H H') ⟨⟨_, rfl⟩, ⟨_, upd_same, .nil⟩, sD⟩ (fun _ _ _ _ _ => True.intro) ?_ ?_
  · rintro i x σ H1 H2 hi ⟨⟨u, rfl⟩, ⟨zs, hz, hzp⟩, hs⟩ ⟨rfl, rfl⟩
    have zl : zs.length ≤ 60 := by rw [Paired.length hzp, pairsN_len]; omega
    refine ⟨_, rfl, tyL (SqL.of hz), _, rfl, _, rfl, _, rfl, _, rfl, szr, fun t nt => ?_⟩
    have s1 := same_upd (o := .tup [.int (2 * (1 + (i : Int))), .int (2 * (1 + (i : Int)) + 1)]) nt
    refine ⟨D, zs, _, rfl, rfl, s1 _ _ hz, szl (by omega), ?_⟩
    generalize hH3 : upd (upd H2 t (.tup [.int (2 * (1 + (i : Int))), .int (2 * (1 + (i : Int)) + 1)])) D (.lst (zs ++ [.ref t])) = H3
    have hs3 : Same H H3 := by rw [← hH3]; exact same_put (hs.trans s1) nD
    have m3 : Ms H3 D (pairsN i ++ [(2 * (1 + (i : Int)), 2 * (1 + (i : Int)) + 1)]) := by
      refine ⟨_, by rw [← hH3]; exact upd_same, ?_⟩
      rw [← hH3]
      refine paired_snoc (paired_mono (fun _ _ r => (r.same s1).put (s1 _ _ hz) (fun _ z => nomatch z)) hzp) ⟨t, rfl, ?_⟩
      rw [upd_ne (fun e => by subst e; rw [hz] at nt; cases nt)]
      exact upd_same
    obtain ⟨ws, hw, hwp⟩ := m3
    have wl : ws.length ≤ 61 := by rw [Paired.length hwp, List.length_append, pairsN_len]; simp; omega
    refine ⟨_, rfl, tyL (SqL.of hw), _, rfl, _, rfl, _, rfl, _, rfl, szr, fun t2 nt2 => ?_⟩
    have s4 := same_upd (o := .tup [.int (2 * (1 + (i : Int)) + 1), .int (2 * (1 + (i : Int)))]) nt2
    refine ⟨D, ws, _, rfl, rfl, s4 _ _ hw, szl (by omega), ⟨_, rfl⟩, ⟨_, upd_same, ?_⟩, same_put (hs3.trans s4) nD⟩
    rw [pairsN_succ]
    have e : pairsN i ++ prs i = (pairsN i ++ [(2 * (1 + (i : Int)), 2 * (1 + (i : Int)) + 1)]) ++ [(2 * (1 + (i : Int)) + 1, 2 * (1 + (i : Int)))] := by
      rw [List.append_assoc]
      rfl
    rw [e]
    refine paired_snoc (paired_mono (fun _ _ r => (r.same s4).put (s4 _ _ hw) (fun _ z => nomatch z)) hwp) ⟨t2, rfl, ?_⟩
    rw [upd_ne (fun e => by subst e; rw [hw] at nt2; cases nt2)]
    exact upd_same
  · rintro σ H1 ⟨⟨u, rfl⟩, hM, hs⟩
    refine ⟨_, rfl, _, _, rfl, rfl, _, _, rfl, ⟨by decide, by decide, by omega, by omega⟩, ?_⟩
    rw [show ((n : Int) + 1 - 1).toNat = n from by omega]
    intro L nL
    refine lc_it walk_range (fun i H' => Ls H' L (posPl i) ∧ Same H1 H') ⟨upd_same, same_upd nL⟩ (fun _ _ _ _ => True.intro) ?_ ?_
    · rintro i y H2 H3 hi ⟨hl, h2⟩ ⟨rfl, rfl⟩
      refine ⟨rfl, yes_go (iteT ?_)⟩
      refine ⟨_, rfl, _, rfl, _, hl, szl ?_, ?_, same_put h2 nL⟩
      · rw [List.length_map, posPl_len]
        omega
      · rw [posPl_succ, Ls, upd_same, List.map_append]
        rfl
    · rintro H2 ⟨hl, h2⟩
      intro x dx nx nd ndx
      refine ⟨x, dx, L, posPl n, rfl, upd_same, ?_, (posPl_lt n).1, fun H3 b3 hA => ?_⟩
      · refine SqL.of ?_
        rw [upd_ne (ne_of_none hl nx), upd_ne (ne_of_none hl nd)]
        exact hl
      · have s3 := same_made nx nd b3
        refine ⟨rfl, ?_⟩
        have hM3 : Ms H3 D (pairsN n) := (hM.same h2).same s3
        -- the display of two rules
        refine ⟨_, rfl, szr, fun t1 nt1 => ?_⟩
        have s4 := same_upd (o := .tup [.str "apart", .ref x]) nt1
        refine ⟨_, rfl, ?_⟩
        intro z dz nz ndz nzz
        refine ⟨z, dz, D, pairsN n, rfl, upd_same, ?_, pairsN_ne n, by rw [pairsN_len]; omega, fun H5 b5 hN => ?_⟩
        · obtain ⟨ws, hw, hwp⟩ := hM3.same s4
          refine ⟨ws, ?_, paired_mono (fun _ _ r => ?_) hwp⟩
          · rw [upd_ne (ne_of_none hw nz), upd_ne (ne_of_none hw ndz)]
            exact hw
          · obtain ⟨t, e, h⟩ := r
            exact ⟨t, e, by rw [upd_ne (ne_of_none h nz), upd_ne (ne_of_none h ndz)]; exact h⟩
        · have s5 := same_made nz ndz b5
          refine ⟨rfl, szr, fun t2 nt2 => ?_⟩
          have s6 := same_upd (o := .tup [.str "whole", .ref z]) nt2
          refine ⟨szr, fun l nl => ?_⟩
          have s7 := same_upd (o := .lst [V.ref t1, V.ref t2]) nl
          generalize hH7 : upd (upd H5 t2 (.tup [.str "whole", .ref z])) l (.lst [V.ref t1, V.ref t2]) = H7 at s7
          have e1 : H7 t1 = some (.tup [.str "apart", .ref x]) := s7 _ _ (s6 _ _ (s5 _ _ upd_same))
          have e2 : H7 t2 = some (.tup [.str "whole", .ref z]) := s7 _ _ upd_same
          have e3 : H7 l = some (.lst [V.ref t1, V.ref t2]) := by rw [← hH7]; exact upd_same
          have hA7 : ApI CA H7 (.ref x) (posPl n) := (((hA.same s4).same s5).same s6).same s7
          have hN7 : NdI CN H7 (.ref z) (pairsN n) := (hN.same s6).same s7
          have sAll : Same H H7 := (((((hs.trans h2).trans s3).trans s4).trans s5).trans s6).trans s7
          intro r dr nr ndr nrr
          refine ⟨r, dr, l, "apart", "whole", .ref x, .ref z, rfl, upd_same, ⟨t1, t2, ?_, ?_, ?_⟩, by decide, fun H8 l' b8 hr8 rw8 => ?_⟩
          · rw [upd_ne (ne_of_none e3 nr), upd_ne (ne_of_none e3 ndr)]; exact e3
          · rw [upd_ne (ne_of_none e1 nr), upd_ne (ne_of_none e1 ndr)]; exact e1
          · rw [upd_ne (ne_of_none e2 nr), upd_ne (ne_of_none e2 ndr)]; exact e2
          · have s8 := same_made nr ndr b8
            exact ⟨rfl, hQ _ _ (sAll.trans s8) ⟨r, dr, l', .ref x, .ref z, rfl, hr8, rw8, hA7.same s8, hN7.same s8⟩⟩
end
end K80
end
section
set_option maxHeartbeats 4000000
namespace K80
open PySem PySem.Spec PyProof.Rows L2 Inf
/-- the text of an exception's __init__ -/
abbrev SupP (P : Program) (K : PySem.W.Frag) (C f : Addr) (qual : Str) (st : Stmt) : Prop := SupTxt P K C f "__init__" qual (defArgs st) (defBody st) (defScope st)
section
variable {CX : CXT} {P : Program} {w : World} {K : PySem.W.Frag} {mg : Str → Option Value} {base : Heap} {f : Addr} {fd : FuncData}
def sp_PositionClash_init (C : Addr) : Sp := fun vs H Q _ => ∃ (a : Addr) (y : V), vs = [.ref a, y] ∧ H a = some (exo a C none) ∧
  ∀ dx H', SameBut a H H' → H dx = none → H' a = some (exo a C (some dx)) → H' dx = some (exd dx [("position", y)]) → Q .non H'
theorem ok_PositionClash_init {C : Addr} (T : SupP P K C f "PositionClash.__init__" s_PositionClash_init) (B : BT mg) (n1 : NoAttr K C "position") :
    ∃ fd, FnOk P w K mg base CX 1 f fd ["self", "position"] (sp_PositionClash_init C) ∧ Binds K fd ["self", "position"] [] := by
  refine fn_sup (N := ["self", "position"]) T ⟨rfl, rfl, rfl, by decide +kernel, rfl, by decide +kernel, by decide +kernel, by decide +kernel, rfl, rfl⟩ (fun vs H Q E h => ?_) rfl rfl rfl B.sup (fun env => ⟨_, rfl⟩) (fun vs H Q E h => ?_) (fun _ _ _ _ _ _ _ us hl => match us, hl with | [_, _], _ => rfl) (fun cdv cc A outer s H vs Q E hr h => ?_)
  · obtain ⟨_, _, rfl, _⟩ := h
    rfl
  · obtain ⟨a, y, rfl, ha, _⟩ := h
    exact ⟨a, _, rfl, ha⟩
  obtain ⟨a, y, rfl, ha, hQ⟩ := h
  refine ⟨_, pss_one (ps_ost (pv 0) (pv 1)), ?_⟩
  refine ⟨_, rfl, _, rfl, a, C, rfl, T.oex, n1, .inl ⟨ha, fun dx nd ne => ?_⟩⟩
  refine hQ dx _ (fun b o n e => ?_) nd upd_same (by rw [upd_ne ne]; exact upd_same)
  rw [upd_ne n, upd_ne (ne_of_none e nd)]
  exact e
def sp_RuleClash_init (C : Addr) : Sp := fun vs H Q _ => ∃ (a : Addr) (y z : V), vs = [.ref a, y, z] ∧ H a = some (exo a C none) ∧
  ∀ dx H', SameBut a H H' → H dx = none → H' a = some (exo a C (some dx)) → H' dx = some (exd dx [("bar", z), ("key", y)]) → Q .non H'
theorem exo_inj {a C : Addr} {d e : Addr} (h : d = e) : exo a C (some d) = exo a C (some e) := by rw [h]
theorem ok_RuleClash_init {C : Addr} (T : SupP P K C f "RuleClash.__init__" s_RuleClash_init) (B : BT mg) (n1 : NoAttr K C "key") (n2 : NoAttr K C "bar") :
    ∃ fd, FnOk P w K mg base CX 1 f fd ["self", "key", "bar"] (sp_RuleClash_init C) ∧ Binds K fd ["self", "key", "bar"] [] := by
  refine fn_sup (N := ["self", "key", "bar"]) T ⟨rfl, rfl, rfl, by decide +kernel, rfl, by decide +kernel, by decide +kernel, by decide +kernel, rfl, rfl⟩ (fun vs H Q E h => ?_) rfl rfl rfl B.sup (fun env => ⟨_, rfl⟩) (fun vs H Q E h => ?_) (fun _ _ _ _ _ _ _ us hl => match us, hl with | [_, _, _], _ => rfl) (fun cdv cc A outer s H vs Q E hr h => ?_)
  · obtain ⟨_, _, _, rfl, _⟩ := h
    rfl
  · obtain ⟨a, y, z, rfl, ha, _⟩ := h
    exact ⟨a, _, rfl, ha⟩
  obtain ⟨a, y, z, rfl, ha, hQ⟩ := h
  refine ⟨_, pss_cons (ps_ost (pv 0) (pv 1)) (pss_one (ps_ost (pv 0) (pv 2))), ?_⟩
  refine ⟨_, rfl, _, rfl, a, C, rfl, T.oex, n1, .inl ⟨ha, fun dx nd ne => ?_⟩⟩
  refine ⟨_, rfl, _, rfl, a, C, rfl, T.oex, n2, .inr ⟨dx, [("key", y)], upd_same, by rw [upd_ne ne]; exact upd_same, Nat.le_of_ble_eq_true rfl, ?_⟩⟩
  refine hQ dx _ (fun b o n e => ?_) nd (by rw [upd_ne ne.symm]; exact upd_same) upd_same
  rw [upd_ne (ne_of_none e nd), upd_ne n, upd_ne (ne_of_none e nd)]
  exact e
def sp_PlaceClash_init (C : Addr) (K : PySem.W.Frag) : Sp := fun vs H Q _ => ∃ (a l : Addr) (y : V) (ns : List Int), vs = [.ref a, y, .ref l] ∧ H a = some (exo a C none) ∧ Ls H l ns ∧ 
  ∀ dx l' H', SameBut a H H' → H dx = none → H' a = some (exo a C (some dx)) → H' dx = some (exd dx [("found", .ref l'), ("place", y)]) → Ls H' l' ns → l' ≠ a → Q .non H'
theorem ok_PlaceClash_init {C : Addr} (T : SupP P K C f "PlaceClash.__init__" s_PlaceClash_init) (B : BT mg) (n1 : NoAttr K C "place") (n2 : NoAttr K C "found") :
    ∃ fd, FnOk P w K mg base CX 1 f fd ["self", "place", "found"] (sp_PlaceClash_init C K) ∧ Binds K fd ["self", "place", "found"] [] := by
  refine fn_sup (N := ["self", "place", "found"]) T ⟨rfl, rfl, rfl, by decide +kernel, rfl, by decide +kernel, by decide +kernel, by decide +kernel, rfl, rfl⟩ (fun vs H Q E h => ?_) rfl rfl rfl B.sup (fun env => ⟨_, rfl⟩) (fun vs H Q E h => ?_) (fun _ _ _ _ _ _ _ us hl => match us, hl with | [_, _, _], _ => rfl) (fun cdv cc A outer s H vs Q E hr h => ?_)
  · obtain ⟨_, _, _, _, rfl, _⟩ := h
    rfl
  · obtain ⟨a, l, y, ns, rfl, ha, _⟩ := h
    exact ⟨a, _, rfl, ha⟩
  obtain ⟨a, l, y, ns, rfl, ha, hl, hQ⟩ := h
  refine ⟨_, pss_cons (ps_ost (pv 0) (pv 1)) (pss_one (ps_ost (pv 0) (pe_callTy call_list_of (by rfl) B.list (by decide +kernel) (pa_cons (pv 2) pa_nil)))), ?_⟩
  refine ⟨_, rfl, _, rfl, a, C, rfl, T.oex, n1, .inl ⟨ha, fun dx nd ne => ?_⟩⟩
  have nla : l ≠ a := fun e => by subst e; rw [hl] at ha; cases ha
  generalize hH1 : upd (upd H dx (exd dx [("place", y)])) a (exo a C (some dx)) = H1
  have e1 : H1 a = some (exo a C (some dx)) := by rw [← hH1]; exact upd_same
  have e2 : H1 dx = some (exd dx [("place", y)]) := by rw [← hH1, upd_ne ne]; exact upd_same
  have hl1 : Ls H1 l ns := by
    rw [← hH1, Ls, upd_ne nla, upd_ne (ne_of_none hl nd)]
    exact hl
  have b1 : SameBut a H H1 := fun b o n e => by rw [← hH1, upd_ne n, upd_ne (ne_of_none e nd)]; exact e
  refine ⟨_, rfl, l, _, rfl, .inl hl1.sq, fun l' nl' => ?_⟩
  have s2 := same_upd (o := .lst (ns.map V.int)) nl'
  have nl'a : l' ≠ a := fun e => by subst e; rw [e1] at nl'; cases nl'
  have nl'd : l' ≠ dx := fun e => by subst e; rw [e2] at nl'; cases nl'
  refine ⟨_, rfl, a, C, rfl, T.oex, n2, .inr ⟨dx, [("place", y)], s2 _ _ e1, s2 _ _ e2, Nat.le_of_ble_eq_true rfl, ?_⟩⟩
  refine hQ dx l' _ (fun b o n e => ?_) nd (by rw [upd_ne ne.symm]; exact s2 _ _ e1) upd_same ?_ nl'a
  · rw [upd_ne (ne_of_none e nd)]
    exact s2 _ _ (b1 _ _ n e)
  · rw [Ls, upd_ne nl'd]
    exact upd_same
end
end K80
end
section
set_option maxHeartbeats 4000000
/-! Plain matters: sorted sets of ints, merging by keys. -/
namespace K80
open PySem PySem.Spec PyProof.Rows L2 Inf
def insS (x : Int) : List Int → List Int
  | [] => [x]
  | y :: r => if x < y then x :: y :: r else if x = y then y :: r else y :: insS x r
def srt (l : List Int) : List Int := l.foldr insS []
theorem mem_insS {x k : Int} : ∀ {l : List Int}, k ∈ insS x l ↔ k = x ∨ k ∈ l
  | [] => by simp [insS]
  | y :: r => by
    unfold insS
    split
    · simp
    · split
      · rename_i h; subst h; simp
      · rw [List.mem_cons, mem_insS, List.mem_cons]
        constructor
        · rintro (h | h | h)
          · exact .inr (.inl h)
          · exact .inl h
          · exact .inr (.inr h)
        · rintro (h | h | h)
          · exact .inr (.inl h)
          · exact .inl h
          · exact .inr (.inr h)
theorem pw_insS {x : Int} : ∀ {l : List Int}, l.Pairwise (· < ·) → (insS x l).Pairwise (· < ·)
  | [], _ => List.pairwise_singleton _ _
  | y :: r, h => by
    have h1 := List.pairwise_cons.mp h
    unfold insS
    split
    · rename_i lt
      refine List.pairwise_cons.mpr ⟨fun z hz => ?_, h⟩
      rcases List.mem_cons.mp hz with e | hz
      · rw [e]; exact lt
      · have := h1.1 z hz
        omega
    · split
      · exact h
      · rename_i h2 h3
        refine List.pairwise_cons.mpr ⟨fun z hz => ?_, pw_insS h1.2⟩
        rcases mem_insS.mp hz with e | hz
        · rw [e]; omega
        · exact h1.1 z hz
theorem mem_srt {k : Int} : ∀ {l : List Int}, k ∈ srt l ↔ k ∈ l
  | [] => by simp [srt]
  | x :: r => by
    show k ∈ insS x (srt r) ↔ _
    rw [mem_insS, mem_srt, List.mem_cons]
theorem pw_srt : ∀ (l : List Int), (srt l).Pairwise (· < ·)
  | [] => .nil
  | x :: r => pw_insS (pw_srt r)
theorem srt_eq {l m : List Int} (pw : m.Pairwise (· < ·)) (h : ∀ k, k ∈ m ↔ k ∈ l) : m = srt l := strict_ext pw (pw_srt l) fun k => by rw [h, mem_srt]
theorem len_insS (x : Int) : ∀ l : List Int, (insS x l).length ≤ l.length + 1
  | [] => by simp [insS]
  | y :: r => by
    have := len_insS x r
    unfold insS
    split
    · simp
    · split
      · simp
      · simp; omega
theorem len_srt : ∀ l : List Int, (srt l).length ≤ l.length
  | [] => by simp [srt]
  | x :: r => by
    have h1 := len_insS x (srt r)
    have h2 := len_srt r
    show (insS x (srt r)).length ≤ _
    simp
    omega
theorem find_at {α : Type} {p : α → Bool} : ∀ {l : List α} {i : Nat} {x : α}, (∀ (j : Nat) (y : α), j < i → l[j]? = some y → p y = false) → l[i]? = some x → p x = true → l.find? p = some x
  | [], _, _, _, h, _ => by simp at h
  | y :: r, 0, x, _, h, hp => by
    simp at h
    subst h
    simp [List.find?_cons, hp]
  | y :: r, i + 1, x, hn, h, hp => by
    have h0 := hn 0 y (by omega) (by simp)
    rw [List.find?_cons, h0]
    exact find_at (i := i) (fun j z hj hz => hn (j + 1) z (by omega) (by simpa using hz)) (by simpa using h) hp
theorem find_no {α : Type} {p : α → Bool} {l : List α} (h : ∀ (j : Nat) (y : α), l[j]? = some y → p y = false) : l.find? p = none := by
  rw [List.find?_eq_none]
  intro x hx
  obtain ⟨j, hj⟩ := List.mem_iff_getElem?.mp hx
  rw [h j x hj]
  decide
/-! ### merging by positions -/
abbrev Arr := List (Int × (Int × Int))
def cho {α : Type} [DecidableEq α] (b o t : Option α) : Option (Option α) := if o = t ∨ t = b then some o else if o = b then some t else none
def keys3 (l0 l1 l2 : Arr) : List Int := srt (l0.map (·.1) ++ (l1.map (·.1) ++ l2.map (·.1)))
def cho3 (l0 l1 l2 : Arr) (q : Int) : Option (Option (Int × Int)) := cho (get l0 q) (get l1 q) (get l2 q)
def clashP (l0 l1 l2 : Arr) : Option Int := (keys3 l0 l1 l2).find? fun q => (cho3 l0 l1 l2 q).isNone
def putP (l0 l1 l2 : Arr) (q : Int) : Option (Int × (Int × Int)) := (cho3 l0 l1 l2 q).join.map fun e => (q, e)
def mrgP (l0 l1 l2 : Arr) : Arr := (keys3 l0 l1 l2).filterMap (putP l0 l1 l2)
theorem filterMap_snoc {α β : Type} (f : α → Option β) (l : List α) (x : α) : (l ++ [x]).filterMap f = l.filterMap f ++ (f x).toList := by
  rw [List.filterMap_append]
  cases h : f x <;> simp [h]
theorem get_map_none {l0 l1 l2 : Arr} {ks : List Int} {q : Int} (h : q ∉ ks) : get (ks.filterMap (putP l0 l1 l2)) q = none := by
  rw [get_none]
  intro m
  obtain ⟨e, he, e2⟩ := List.mem_map.mp m
  obtain ⟨k, hk, h2⟩ := List.mem_filterMap.mp he
  unfold putP at h2
  obtain ⟨z, _, rfl⟩ := Option.map_eq_some_iff.mp h2
  exact h (e2 ▸ hk)
theorem not_mem_take {ks : List Int} (pw : ks.Pairwise (· < ·)) {i : Nat} {q : Int} (h : ks[i]? = some q) : q ∉ ks.take i := by
  intro m
  obtain ⟨j, hj⟩ := List.mem_iff_getElem?.mp m
  have hji : j < i := by
    have := (List.getElem?_eq_some_iff.mp hj).1
    simp at this
    omega
  rw [List.getElem?_take_of_lt hji] at hj
  obtain ⟨l1, e1⟩ := List.getElem?_eq_some_iff.mp hj
  obtain ⟨l2, e2⟩ := List.getElem?_eq_some_iff.mp h
  have := List.pairwise_iff_getElem.mp pw j i l1 l2 hji
  rw [e1, e2] at this
  exact absurd this (Int.lt_irrefl _)
/-! ### merging by places -/
def keysB (l1 l2 : List (Int × Int)) : List Int := srt (l1.map (·.1) ++ l2.map (·.1))
def mvB (l0 l1 l2 : List (Int × Int)) (q : Int) : Option Int := mval (gv l0 q) (gv l1 q) (gv l2 q)
def putB (l0 l1 l2 : List (Int × Int)) (q : Int) : Option (Int × Int) := match mvB l0 l1 l2 q with
  | some v => if 0 < v then some (q, v) else none
  | none => none
def mrgB (l0 l1 l2 : List (Int × Int)) : List (Int × Int) := (keysB l1 l2).filterMap (putB l0 l1 l2)
def clsB (l0 l1 l2 : List (Int × Int)) : List Int := (keysB l1 l2).filter fun q => (mvB l0 l1 l2 q).isNone
theorem get_mapB_none {l0 l1 l2 : List (Int × Int)} {ks : List Int} {q : Int} (h : q ∉ ks) : get (ks.filterMap (putB l0 l1 l2)) q = none := by
  rw [get_none]
  intro m
  obtain ⟨e, he, e2⟩ := List.mem_map.mp m
  obtain ⟨k, hk, h2⟩ := List.mem_filterMap.mp he
  unfold putB at h2
  split at h2
  · split at h2
    · cases h2; exact h (e2 ▸ hk)
    · cases h2
  · cases h2
/-! ### the data of an entry -/
def EntV (H : Hp) (v : V) : Option (Int × Int) → Prop
  | none => v = .non
  | some e => Mk2 H v e
def entD : Option (Int × Int) → PyData
  | none => .none
  | some e => mkD e
theorem EntV.dp {K : PySem.W.Frag} {H : Hp} {v : V} : ∀ {o : Option (Int × Int)}, EntV H v o → Dp K H v (entD o)
  | none, h => by rw [show v = .non from h]; exact .non
  | some e, h => Mk2.dp h
theorem EntV.same {H H' : Hp} (e : Same H H') {v : V} : ∀ {o : Option (Int × Int)}, EntV H v o → EntV H' v o
  | none, h => h
  | some _, h => Mk2.same e h
theorem entV_of {H : Hp} {o : Option V} {p : Option (Int × Int)} (h : EntO H o p) : EntV H (o.getD .non) p := by
  cases p with
  | none => rw [entO_none h]; rfl
  | some e =>
    obtain ⟨t, e1, e2⟩ := entO_some h
    rw [e1]
    exact ⟨t, rfl, e2⟩
theorem entD_shaped (o : Option (Int × Int)) : SeqAt.shaped (entD o) = true := by
  cases o with
  | none => rfl
  | some e =>
    simp only [entD, SeqAt.shaped, mkD, PyData.canLay0, PyData.canLayAll0, PyData.depth, PyData.depthAll, Bool.and_true, Bool.true_and, decide_eq_true_eq]
    omega
theorem entD_eqv (a b : Option (Int × Int)) : PyData.eqv (entD a) (entD b) = decide (a = b) := by
  cases a with
  | none =>
    cases b with
    | none => rfl
    | some y => simp [entD, mkD, PyData.eqv]
  | some x =>
    cases b with
    | none => simp [entD, mkD, PyData.eqv]
    | some y =>
      obtain ⟨x1, x2⟩ := x
      obtain ⟨y1, y2⟩ := y
      simp only [entD, mkD, PyData.eqv, PyData.eqvAll, Bool.and_true]
      rw [Bool.eq_iff_iff]
      simp
theorem EntV.isNon {H : Hp} {v : V} {o : Option (Int × Int)} (h : EntV H v o) : decide (v = .non) = o.isNone := by
  cases o with
  | none => rw [show v = .non from h]; rfl
  | some e =>
    obtain ⟨t, rfl, _⟩ := (show Mk2 H v e from h)
    rfl
end K80
end
section
set_option maxHeartbeats 4000000
namespace K80
open PySem PySem.Spec PyProof.Rows L2 Inf
/-- an own exception, made by its own __init__ -/
structure HasX (P : Program) (w : World) (K : PySem.W.Frag) (mg : Str → Option Value) (base : Heap) (k : Nat) (x : Str) (C : Addr) (sp : Sp) : Prop where
  oex : OexC K C
  gl : mg x = some (.ref C)
  ex : ∃ (f : Addr) (fd : FuncData) (ps : List Str), PySem.W.findIn K (.ref C) "__init__" = some (some (.ref f)) ∧ PySem.W.typeIn K (.ref f) = some (.type "function") ∧ FnOk P w K mg base CX0 k f fd ps sp ∧ Binds K fd ps []
theorem pmk_x {X : Cx} {k j : Nat} {x : Str} {C : Addr} {sp : Sp} {e : Expr} {es : List Expr} {t : TA} {p pos : Pos} (G : HasX X.prog X.w X.K X.mg X.base j x C sp) (hr : Room k X.A) (ha : PA X (e :: es) t) (hjk : j + 1 ≤ k := by decide) (hg : Gl X x := by rfl)
    (hdb : (x == ("__debug__" : Str)) = false := by decide) (he : starEach (e :: es) X.env = (false, eval e X.env) :: starEach es X.env := by rfl) (hpl : (backTo pos (starEach es X.env)).any (·.1) = false := by rfl) :
    L2N.PMk X (.Call (.Name x p) (e :: es) [] pos) (tMkO C sp [] t) := by
  obtain ⟨f, fd, ps, i, t, F, b⟩ := G.ex
  exact pmk_oexN G.oex i t F (hr.mono hjk) b pass0 hg G.gl ha hdb he hpl
/-- a def that may raise where nothing is handled -/
theorem okXN {P : Program} {w : World} {K : PySem.W.Frag} {mg : Str → Option Value} {base : Heap} {f : Addr} {fd : FuncData} {x qual : Str} {st : Stmt} {N ps : List Str} {k : Nat} {sp : Sp} (F : FnP K x qual st f fd) (S : FnScope N ps (defScope st))
    (len : ∀ vs H Q E, sp vs H Q E → vs.length = ps.length)
    (body : ∀ (cdv : Value) (A : Around) (outer : List Env) (s : Shared) (H : Hp) (vs : List V) (Q : VK) (E : XK), Room k (A.deeper (envOfC qual (defScope st) s.heap.objs.size f cdv)) → sp vs H Q E →
      ∃ t, PSs (cxOf (L2N.CX P w) P w K mg base N qual (defScope st) f cdv A outer s H E) (defBody st) t ∧ t { nx := fun _ H' => Q .non H', rt := Q } (L2.start N vs) H) : FnOk P w K mg base (L2N.CX P w) (k + 1) f fd ps sp :=
  FunD.ok F S len body
/-- how an exception that was just made stands -/
theorem same_exc {H H2 : Hp} {a d : Addr} {o : HO} {fs : List (Str × V)} (na : H a = none) (nd : H d = none) (b : SameBut a (upd H a o) H2) : Same H (upd (del H2 a) d (.xd fs)) := fun c u e => by
  have n1 := ne_of_none e na
  rw [upd_ne (ne_of_none e nd), del_ne n1]
  exact b c u n1 (by rw [upd_ne n1]; exact e)
section
variable {P : Program} {w : World} {K : PySem.W.Frag} {mg : Str → Option Value} {base : Heap} {f : Addr} {fd : FuncData}
theorem ks_vals {H : Hp} {kvs : List (Key × V)} {l : Arr} (p : Paired (Ent H) kvs l) : (kvs.map fun kv => kV kv.1) = (l.map (·.1)).map V.int := by
  induction p with
  | nil => rfl
  | cons h _ ih =>
    simp only [List.map_cons]
    rw [ih, h.1]
    rfl
def sp_merge_positions (C : Addr) (K : PySem.W.Frag) : Sp := fun vs H Q E => ∃ (a b c : Addr) (l0 l1 l2 : Arr), vs = [.ref a, .ref b, .ref c] ∧ Ar H a l0 ∧ Ar H b l1 ∧ Ar H c l2 ∧ l0.length + (l1.length + l2.length) < 64 ∧
  (clashP l0 l1 l2 = none → ∀ p H', Same H H' → H p = none → Ar H' p (mrgP l0 l1 l2) → Q (.ref p) H') ∧
  ∀ q, clashP l0 l1 l2 = some q → ∀ d H', Same H H' → H' d = some (.xd [("position", .int q)]) → E (.ref C) (some d) H'
theorem ok_merge_positions {C : Addr} (F : FnP K "merge_positions" "merge_positions" s_merge_positions f fd) (B : BT mg) (G_ascending : Has P w K mg base CX0 1 "ascending" (sp_ascending K)) (X_PositionClash : HasX P w K mg base 1 "PositionClash" C (sp_PositionClash_init C)) :
    FnOk P w K mg base (L2N.CX P w) 3 f fd ["base", "first", "second"] (sp_merge_positions C K) := by
  refine okXN F sc_merge_positions (fun vs H Q E h => ?_) (fun cdv A outer s H vs Q E hr h => ?_)
  · obtain ⟨_, _, _, _, _, _, rfl, _⟩ := h
    rfl
  obtain ⟨a, b, c, l0, l1, l2, rfl, h0, h1, h2, hl, hQ, hE⟩ := h
  have hu := hu_of hr
  obtain ⟨k0, hk0, hp0⟩ := h0
  obtain ⟨k1, hk1, hp1⟩ := h1
  obtain ⟨k2, hk2, hp2⟩ := h2
  refine ⟨_, pss_cons (ps_set (i := 3) sc_merge_positions.nd rfl (.inl rfl) pe_dnewK)
    (pss_cons (ps_for (passes_of rfl) rfl (pi_list (pe_c G_ascending hr (pa_cons (pe_lst (pa_starD rfl (pv 0) (pa_starD rfl (pv 1) (pa_starD rfl (pv 2) pa_nil)))) pa_nil))) (pg_name (i := 4) sc_merge_positions.nd rfl (Or.inl rfl))
     (pss_cons (ps_par3 (i := 5) (j := 6) (l := 7) (by rfl) sc_merge_positions.nd rfl rfl rfl (by decide) (by decide) (by decide) rfl rfl rfl (pa_cons (pe_dget1 hu (pv 0) (pv 4) ⟨rfl, rfl, rfl, rfl⟩) (pa_cons (pe_dget1 hu (pv 1) (pv 4) ⟨rfl, rfl, rfl, rfl⟩) (pa_cons (pe_dget1 hu (pv 2) (pv 4) ⟨rfl, rfl, rfl, rfl⟩) pa_nil))) (by rfl))
     (C8.pss_cut (ps_if (PW.pt (pw_or (pt_cmpR (op_eqD hr.units) (pv 6) (pv 7) (nomark _)) (pw_or1 (pt_cmpR (op_eqD hr.units) (pv 7) (pv 5) (nomark _)))))
      (pss_one (ps_set (i := 8) sc_merge_positions.nd rfl (.inl rfl) (pv 6)))
      (pss_one (ps_if (pt_cmpR (op_eqD hr.units) (pv 6) (pv 5) (nomark _))
       (pss_one (ps_set (i := 8) sc_merge_positions.nd rfl (.inl rfl) (pv 7)))
       (pss_one (L2N.ps_raise rfl (L2N.takes_of rfl rfl rfl rfl) (pmk_x X_PositionClash hr (pa_cons (pv 4) pa_nil)))))))
     (pss_one (ps_if (pt_cmp (pc_notN (pv 8)))
      (pss_one (ps_dput hu (pv 3) (pv 4) (pv 8) rfl))
      pss_nil)))))
    (pss_one (ps_ret (pv 3)))), ?_⟩
  intro D nD
  have sD := same_upd (o := .dK []) nD
  have e0 := ks_vals hp0
  have e1 := ks_vals hp1
  have e2 := ks_vals hp2
  refine ⟨_, rfl, a, k0, rfl, sD _ _ hk0, _, rfl, b, k1, rfl, sD _ _ hk1, _, rfl, c, k2, rfl, sD _ _ hk2, ?_⟩
  have el : (k0.map fun kv => kV kv.1) ++ ((k1.map fun kv => kV kv.1) ++ ((k2.map fun kv => kV kv.1) ++ [])) = (l0.map (·.1) ++ (l1.map (·.1) ++ l2.map (·.1))).map V.int := by
    rw [e0, e1, e2]
    simp
  have ell : (l0.map (·.1) ++ (l1.map (·.1) ++ l2.map (·.1))).length < 64 := by
    simp
    omega
  refine ⟨sz ?_, fun L nL => ?_⟩
  · rw [el, List.length_map]
    omega
  have s1 := sD.trans (same_upd (o := .lst ((k0.map fun kv => kV kv.1) ++ ((k1.map fun kv => kV kv.1) ++ ((k2.map fun kv => kV kv.1) ++ [])))) nL)
  have hL0 : upd (upd H D (.dK [])) L (.lst ((k0.map fun kv => kV kv.1) ++ ((k1.map fun kv => kV kv.1) ++ ((k2.map fun kv => kV kv.1) ++ [])))) L = some (.lst ((l0.map (·.1) ++ (l1.map (·.1) ++ l2.map (·.1))).map V.int)) := by
    rw [upd_same, el]
  have hD1 : upd (upd H D (.dK [])) L (.lst ((k0.map fun kv => kV kv.1) ++ ((k1.map fun kv => kV kv.1) ++ ((k2.map fun kv => kV kv.1) ++ [])))) D = some (.dK []) := by
    rw [upd_ne (fun e => by rw [← e, upd_same] at nL; cases nL)]
    exact upd_same
  refine ⟨L, _, rfl, .inl (SqL.of hL0), ell, fun ks p H1 pw hm hs np hL => ?_⟩
  obtain rfl : ks = keys3 l0 l1 l2 := srt_eq pw hm
  have hs1 := s1.trans hs
  have hD2 : H1 D = some (.dK []) := hs _ _ hD1
  refine ⟨p, rfl, ⟨_, hL.sq⟩, ?_⟩
  refine for_it (walk_list (xs := (keys3 l0 l1 l2).map V.int)) (fun i σ H' => (∃ u v x y z, σ = [some (.ref a), some (.ref b), some (.ref c), some (.ref D), u, v, x, y, z]) ∧ Ar H' D (((keys3 l0 l1 l2).take i).filterMap (putP l0 l1 l2)) ∧ Same H H' ∧ Ls H' p (keys3 l0 l1 l2) ∧
    ∀ j q, j < i → (keys3 l0 l1 l2)[j]? = some q → (cho3 l0 l1 l2 q).isNone = false) ⟨⟨_, _, _, _, _, rfl⟩, ⟨_, hD2, .nil⟩, hs1, hL, fun j q h => absurd h (Nat.not_lt_zero j)⟩ (fun i σ H' _ p => p.2.2.2.1.sq) ?_ ?_
  · rintro i x σ H2 H3 hi ⟨⟨u, v, x0, y0, z0, rfl⟩, ⟨zs, hz, hzp⟩, hs2, hp2', hno⟩ ⟨rfl, hx⟩
    rw [List.getElem?_map] at hx
    obtain ⟨q, hq, rfl⟩ := Option.map_eq_some_iff.mp hx
    have g0 := DGet.k (k := .inl q) (hs2 _ _ hk0)
    have g1 := DGet.k (k := .inl q) (hs2 _ _ hk1)
    have g2 := DGet.k (k := .inl q) (hs2 _ _ hk2)
    have v0 := (entV_of (ent_val hp0 q)).same hs2
    have v1 := (entV_of (ent_val hp1 q)).same hs2
    have v2 := (entV_of (ent_val hp2 q)).same hs2
    refine ⟨_, rfl, a, rfl, .inl ⟨_, .inl (hs2 _ _ hk0)⟩, _, rfl, _, g0, ?_⟩
    refine ⟨_, rfl, b, rfl, .inl ⟨_, .inl (hs2 _ _ hk1)⟩, _, rfl, _, g1, ?_⟩
    refine ⟨_, rfl, c, rfl, .inl ⟨_, .inl (hs2 _ _ hk2)⟩, _, rfl, _, g2, ?_⟩
    refine ⟨_, _, _, rfl, ?_⟩
    generalize (valV k0 (Sum.inl q)).getD V.non = w0 at v0
    generalize (valV k1 (Sum.inl q)).getD V.non = w1 at v1
    generalize (valV k2 (Sum.inl q)).getD V.non = w2 at v2
    -- behind the choice
    refine ⟨fun σ' H' => H' = H3 ∧ ∃ ch vv, cho3 l0 l1 l2 q = some ch ∧ EntV H3 vv ch ∧ σ' = [some (.ref a), some (.ref b), some (.ref c), some (.ref D), some (.int q), some w0, some w1, some w2, some vv], ?_, ?_⟩
    · refine ⟨_, rfl, _, rfl, _, _, v1.dp, v2.dp, entD_shaped _, entD_shaped _, _, rfl, ?_⟩
      rw [entD_eqv]
      refine ite2 (fun c1 => ?_) (fun c1 => ?_)
      · have c1' := of_decide_eq_true c1
        exact iteT ⟨_, rfl, rfl, _, w1, if_pos (.inl c1'), v1, rfl⟩
      · have c1' : ¬ get l1 q = get l2 q := fun h => c1 (decide_eq_true h)
        refine ⟨_, rfl, _, rfl, _, _, v2.dp, v0.dp, entD_shaped _, entD_shaped _, _, rfl, ?_⟩
        rw [entD_eqv]
        refine ite2 (fun c2 => ?_) (fun c2 => ?_)
        · have c2' := of_decide_eq_true c2
          exact ⟨_, rfl, rfl, _, w1, if_pos (.inr c2'), v1, rfl⟩
        · have c2' : ¬ get l2 q = get l0 q := fun h => c2 (decide_eq_true h)
          refine ⟨_, rfl, _, rfl, _, _, v1.dp, v0.dp, entD_shaped _, entD_shaped _, _, rfl, ?_⟩
          rw [entD_eqv]
          have nor : ¬ (get l1 q = get l2 q ∨ get l2 q = get l0 q) := fun h => h.elim c1' c2'
          refine ite2 (fun c3 => ?_) (fun c3 => ?_)
          · have c3' := of_decide_eq_true c3
            exact ⟨_, rfl, rfl, _, w2, (if_neg nor).trans (if_pos c3'), v2, rfl⟩
          · have c3' : ¬ get l1 q = get l0 q := fun h => c3 (decide_eq_true h)
            have ec : cho3 l0 l1 l2 q = none := (if_neg nor).trans (if_neg c3')
            have ecl : clashP l0 l1 l2 = some q := find_at (i := i) hno hq (by rw [ec]; rfl)
            refine ⟨_, rfl, Nat.le_of_ble_eq_true rfl, fun e ne => ?_⟩
            refine ⟨e, _, rfl, upd_same, fun dx H4 b4 nd h4 h4d => ?_⟩
            have ndx : H3 dx = none := by
              by_cases z : dx = e
              · rw [z]; exact ne
              · rw [upd_ne z] at nd; exact nd
            exact ⟨rfl, dx, _, h4, h4d, ndx, hE q ecl dx _ (hs2.trans (same_exc ne ndx b4)) upd_same⟩
    · rintro σ' H' ⟨rfl, ch, vv, ec, ev, rfl⟩
      have hno' : ∀ j r, j < i + 1 → (keys3 l0 l1 l2)[j]? = some r → (cho3 l0 l1 l2 r).isNone = false := by
        intro j r hj hr
        by_cases z : j = i
        · subst z
          rw [hq] at hr
          cases hr
          rw [ec]
          rfl
        · exact hno j r (by omega) hr
      have ts := take_snoc hq
      have pe : putP l0 l1 l2 q = ch.map fun e => (q, e) := by unfold putP; rw [ec]; rfl
      refine ⟨_, rfl, _, rfl, ?_⟩
      rw [ev.isNon]
      cases ch with
      | none =>
        refine iteF ⟨⟨_, _, _, _, _, rfl⟩, ?_, hs2, hp2', hno'⟩
        rw [ts, filterMap_snoc, pe]
        simp only [Option.map_none, Option.toList_none, List.append_nil]
        exact ⟨zs, hz, hzp⟩
      | some e =>
        obtain ⟨t, rfl, ht⟩ := (show Mk2 H' vv e from ev)
        have gn : get (((keys3 l0 l1 l2).take i).filterMap (putP l0 l1 l2)) q = none := get_map_none (not_mem_take pw hq)
        refine iteT ⟨_, rfl, _, rfl, _, rfl, D, _, rfl, DPut.k (k := .inl q) hz (szl ?_), ⟨_, _, _, _, _, rfl⟩, ?_, same_put hs2 nD, ?_, hno'⟩
        · rw [Paired.length hzp]
          have a1 := List.length_filterMap_le (putP l0 l1 l2) ((keys3 l0 l1 l2).take i)
          have a2 := len_srt (l0.map (·.1) ++ (l1.map (·.1) ++ l2.map (·.1)))
          rw [List.length_take] at a1
          simp at a2
          have a3 : (keys3 l0 l1 l2).length ≤ l0.length + (l1.length + l2.length) := a2
          omega
        · rw [ts, filterMap_snoc, pe]
          exact Ar.add hz hzp gn ht
        · rw [Ls, upd_ne (fun e => by rw [e] at hp2'; cases (hz.symm.trans hp2'))]
          exact hp2'
  · rintro σ H2 ⟨⟨u, v, x0, y0, z0, rfl⟩, ha, hs2, hp2', hno⟩
    have e : ((keys3 l0 l1 l2).map V.int).length = (keys3 l0 l1 l2).length := by simp
    rw [e] at ha hno
    rw [List.take_length] at ha
    refine ⟨_, rfl, hQ (find_no fun j y hj => hno j y (List.getElem?_eq_some_iff.mp hj).1 hj) D _ hs2 nD ha⟩
end
end K80
end
section
set_option maxHeartbeats 4000000
namespace K80
open PySem PySem.Spec PyProof.Rows L2 Inf
section
variable {P : Program} {w : World} {K : PySem.W.Frag} {mg : Str → Option Value} {base : Heap} {f : Addr} {fd : FuncData}
/-! ### require_lawful -/
def sp_require_lawful (CR CA CN : Addr) : Sp := fun vs H Q _ => ∃ (x : V) (a : Addr) (kvs : List (Int × Int)) (n : Nat), vs = [x, .ref a] ∧ RbI CR CA CN H x n ∧ Bk H a kvs ∧ n ≤ 30 ∧ NdOk kvs n ∧ rz kvs n = none ∧ ∀ H', Same H H' → Q .non H'
theorem ok_require_lawful {CR CA CN : Addr} (F : FnP K "require_lawful" "require_lawful" s_require_lawful f fd) (M_RuleBook_reason : HasM P w K mg base CX0 5 CR "reason" (sp_RuleBook_reason CR CA CN K)) :
    FnOk P w K mg base CX0 6 f fd ["rulebook", "book"] (sp_require_lawful CR CA CN) := by
  refine okN F sc_require_lawful (fun vs H Q E h => ?_) (fun cdv A outer s H vs Q E hr h => ?_)
  · obtain ⟨_, _, _, _, rfl, _⟩ := h
    rfl
  obtain ⟨x, b, kvs, n, rfl, hR, hB, hn, ok, hz, hQ⟩ := h
  refine ⟨_, pss_cons (ps_set (i := 2) sc_require_lawful.nd rfl (.inl rfl) (pe_mt M_RuleBook_reason hr (pv 0) (pa_cons (pv 1) pa_nil)))
    (pss_one (ps_if (pt_cmp (pc_notN (pv 2)))
     (pss_one ps_never)
     pss_nil)), ?_⟩
  obtain ⟨a, dx, l, y1, y2, rfl, ha, h3, h4, h5⟩ := hR
  refine ⟨_, rfl, a, dx, _, rfl, ha, rfl, _, rfl, _, b, kvs, n, rfl, ⟨a, dx, l, y1, y2, rfl, ha, h3, h4, h5⟩, hB, hn, ok, fun v H1 hs hv => ?_⟩
  rw [hz] at hv
  obtain rfl : v = V.non := hv
  exact ⟨_, rfl, _, rfl, iteF (hQ H1 hs)⟩
/-! ### value_merge -/
def sp_value_merge (K : PySem.W.Frag) : Sp := fun vs H Q _ => ∃ (a e b c : Addr) (l0 l1 l2 : List (Int × Int)), vs = [.ref a, .ref e, .ref b, .ref c] ∧ Bk H a l0 ∧ H e = some (.lst []) ∧ Bk H b l1 ∧ Bk H c l2 ∧ l1.length + l2.length < 64 ∧
  ∀ t d g H', Same H H' → H t = none → H d = none → H g = none → H' t = some (.tup [.ref d, .ref g]) → Bk H' d (mrgB l0 l1 l2) → Ls H' g (clsB l0 l1 l2) → Q (.ref t) H'
theorem kvI_keys (l : List (Int × Int)) : ((kvI l).map fun kv => kV kv.1) = (l.map (·.1)).map V.int := by
  unfold kvI
  rw [List.map_map, List.map_map]
  rfl
theorem ok_value_merge (F : FnP K "value_merge" "value_merge" s_value_merge f fd) (B : BT mg) (G_ascending : Has P w K mg base CX0 1 "ascending" (sp_ascending K)) (G_value_at : Has P w K mg base CX0 1 "value_at" (sp_value_at K)) (G_merged_value : Has P w K mg base CX0 1 "merged_value" sp_merged_value) :
    FnOk P w K mg base CX0 2 f fd ["base", "open_places", "first", "second"] (sp_value_merge K) := by
  refine okN F sc_value_merge (fun vs H Q E h => ?_) (fun cdv A outer s H vs Q E hr h => ?_)
  · obtain ⟨_, _, _, _, _, _, _, rfl, _⟩ := h
    rfl
  obtain ⟨a, e, b, c, l0, l1, l2, rfl, h0, he, h1, h2, hl, hQ⟩ := h
  have hu := hu_of hr
  refine ⟨_, pss_cons (ps_set (i := 4) sc_value_merge.nd rfl (.inl rfl) pe_dnewK)
    (pss_cons (ps_set (i := 5) sc_value_merge.nd rfl (.inl rfl) (pe_lst pa_nil))
    (pss_cons (ps_for PassesOwn.never rfl (pi_list (pe_c G_ascending hr (pa_cons (pe_op op_cat (pe_callTy (call_listD rfl) (by rfl) B.list (by decide +kernel) (pa_cons (pv 2) pa_nil)) (pe_callTy (call_listD rfl) (by rfl) B.list (by decide +kernel) (pa_cons (pv 3) pa_nil))) pa_nil))) (pg_name (i := 6) sc_value_merge.nd rfl (Or.inl rfl))
     (pss_cons (ps_set (i := 7) sc_value_merge.nd rfl (.inl rfl) (pe_c G_value_at hr (pa_cons (pv 2) (pa_cons (pv 6) pa_nil))))
     (pss_cons (ps_set (i := 8) sc_value_merge.nd rfl (.inl rfl) (pe_c G_value_at hr (pa_cons (pv 3) (pa_cons (pv 6) pa_nil))))
     (pss_cons (ps_set (i := 9) sc_value_merge.nd rfl (.inl rfl) (pe_c G_merged_value hr (pa_cons (pe_c G_value_at hr (pa_cons (pv 0) (pa_cons (pv 6) pa_nil))) (pa_cons (pe_cmpR op_in_seq (pv 6) (pv 1) (by rfl)) (pa_cons (pv 7) (pa_cons (pv 8) pa_nil))))))
     (pss_one (ps_if (pt_cmp (pc_isN (pv 9)))
      (pss_one (ps_expr (pe_bm PySem.F.plainAttrs_list PySem.F.slot_list_append PySem.F.type_list_append mt_append (pv 5) (pa_cons (pv 6) pa_nil))))
      (pss_one (ps_if (pt_cmpR op_gt (pv 9) pe_int (nomark _))
       (pss_one (ps_dput hu (pv 4) (pv 6) (pv 9) rfl))
       pss_nil))))))))
    (pss_one (ps_ret (pe_tup (pa_cons (pv 4) (pa_cons (pv 5) pa_nil))))))), ?_⟩
  intro D nD
  have sD := same_upd (o := .dK []) nD
  refine ⟨szr, fun Z nZ => ?_⟩
  have sZ := same_upd (o := .lst []) nZ
  have nZD : Z ≠ D := fun e => by rw [e, upd_same] at nZ; cases nZ
  have hDD : upd (upd H D (.dK [])) Z (.lst []) D = some (.dK []) := by rw [upd_ne nZD.symm]; exact upd_same
  have hZZ : upd (upd H D (.dK [])) Z (.lst []) Z = some (.lst []) := upd_same
  have s0 := sD.trans sZ
  have nZ0 : H Z = none := sD.free nZ
  generalize upd (upd H D (.dK [])) Z (.lst []) = H0 at s0 hDD hZZ
  refine ⟨_, rfl, b, _, rfl, .inl (s0 _ _ h1), fun p np => ?_⟩
  have s1 := same_upd (o := .lst ((kvI l1).map fun kv => kV kv.1)) np
  refine ⟨_, rfl, c, _, rfl, .inl (s1 _ _ (s0 _ _ h2)), fun q nq => ?_⟩
  have s2 := same_upd (o := .lst ((kvI l2).map fun kv => kV kv.1)) nq
  have nqp : q ≠ p := fun e => by rw [e, upd_same] at nq; cases nq
  refine ⟨p, q, _, _, rfl, rfl, by rw [upd_ne nqp.symm]; exact upd_same, upd_same, ?_, fun r nr => ?_⟩
  · refine sz ?_
    simp [kvI]
    omega
  have s3 := same_upd (o := .lst (((kvI l1).map fun kv => kV kv.1) ++ ((kvI l2).map fun kv => kV kv.1))) nr
  refine ⟨r, l1.map (·.1) ++ l2.map (·.1), rfl, .inl (SqL.of (by rw [upd_same, kvI_keys, kvI_keys, List.map_append])), by simp; omega, fun ks t H1 pw hm hs nt hL => ?_⟩
  obtain rfl : ks = keysB l1 l2 := srt_eq pw hm
  have sA : Same H0 H1 := ((s1.trans s2).trans s3).trans hs
  have sAll := s0.trans sA
  have ntZ : t ≠ Z := fun e => by rw [e, ((s1.trans s2).trans s3) _ _ hZZ] at nt; cases nt
  have hD1 := sA _ _ hDD
  have hZ1 := sA _ _ hZZ
  have kl : (keysB l1 l2).length < 64 := by
    have a2 := len_srt (l1.map (·.1) ++ l2.map (·.1))
    simp at a2
    have a3 : (keysB l1 l2).length ≤ l1.length + l2.length := a2
    omega
  refine ⟨t, rfl, ⟨_, hL.sq⟩, ?_⟩
  refine for_it (walk_list (xs := (keysB l1 l2).map V.int)) (fun i σ H' => (∃ u v x y, σ = [some (.ref a), some (.ref e), some (.ref b), some (.ref c), some (.ref D), some (.ref Z), u, v, x, y]) ∧ Bk H' D (((keysB l1 l2).take i).filterMap (putB l0 l1 l2)) ∧
    Ls H' Z (((keysB l1 l2).take i).filter fun q => (mvB l0 l1 l2 q).isNone) ∧ Same H H' ∧ Ls H' t (keysB l1 l2)) ⟨⟨_, _, _, _, rfl⟩, hD1, hZ1, sAll, hL⟩ (fun i σ H' _ p => p.2.2.2.2.sq) ?_ ?_
  · rintro i x σ H2 H3 hi ⟨⟨u, v, x0, y0, rfl⟩, hb, hz, hs2, ht⟩ ⟨rfl, hx⟩
    rw [List.getElem?_map] at hx
    obtain ⟨k, hk, rfl⟩ := Option.map_eq_some_iff.mp hx
    have ts := take_snoc hk
    have lt : ((keysB l1 l2).take i).length < 64 := by rw [List.length_take]; omega
    refine ⟨_, rfl, _, rfl, b, l1, k, rfl, hs2 _ _ h1, ?_⟩
    refine ⟨_, rfl, _, rfl, c, l2, k, rfl, hs2 _ _ h2, ?_⟩
    refine ⟨_, rfl, _, rfl, a, l0, k, rfl, hs2 _ _ h0, ?_⟩
    refine ⟨_, rfl, _, rfl, e, [], rfl, .inl (SqL.of (hs2 _ _ he)), rfl, rfl, _, rfl, _, rfl, gv l0 k, gv l1 k, gv l2 k, rfl, ?_⟩
    have em : mvB l0 l1 l2 k = mval (gv l0 k) (gv l1 k) (gv l2 k) := rfl
    rw [← em]
    cases hmv : mvB l0 l1 l2 k with
    | none =>
      refine ⟨_, rfl, _, rfl, iteT ?_⟩
      refine ⟨_, rfl, tyL (Ls.sq hz), _, rfl, Z, _, _, rfl, rfl, hz, szl ?_, ⟨_, _, _, _, rfl⟩, ?_, ?_, same_put hs2 nZ0, ?_⟩
      · have := List.length_filter_le (fun q => (mvB l0 l1 l2 q).isNone) ((keysB l1 l2).take i)
        simp at this ⊢
        omega
      · rw [ts, filterMap_snoc, show putB l0 l1 l2 k = none from by unfold putB; rw [hmv]]
        simp only [Option.toList_none, List.append_nil]
        rw [Bk, upd_ne (fun e => by rw [e] at hb; cases (show some _ = some _ from hb.symm.trans hz))]
        exact hb
      · rw [ts, List.filter_append, Ls, upd_same]
        simp [hmv]
      · rw [Ls, upd_ne (fun e => ntZ e)]
        exact ht
    | some z =>
      refine ⟨_, rfl, _, rfl, iteF ?_⟩
      refine ⟨_, rfl, _, _, rfl, rfl, _, rfl, ?_⟩
      have hz' : Ls H3 Z (((keysB l1 l2).take (i + 1)).filter fun q => (mvB l0 l1 l2 q).isNone) := by
        rw [ts, List.filter_append]
        simp [hmv]
        exact hz
      refine ite2 (fun c1 => ?_) (fun c1 => ?_)
      · have c1' : 0 < z := of_decide_eq_true c1
        have pb : putB l0 l1 l2 k = some (k, z) := by unfold putB; rw [hmv]; exact if_pos c1'
        have gn : get (((keysB l1 l2).take i).filterMap (putB l0 l1 l2)) k = none := get_mapB_none (not_mem_take pw hk)
        refine ⟨_, rfl, _, rfl, _, rfl, D, _, rfl, DPut.k (k := .inl k) hb (szl ?_), ⟨_, _, _, _, rfl⟩, ?_, ?_, same_put hs2 nD, ?_⟩
        · rw [kvI_len]
          have := List.length_filterMap_le (putB l0 l1 l2) ((keysB l1 l2).take i)
          omega
        · rw [Bk, upd_same, show ((Option.map V.int (some z)).getD V.non) = V.int z from rfl, putK_kvI gn, ts, filterMap_snoc, pb]
          rfl
        · rw [Ls, upd_ne (fun e => by rw [e] at hz'; cases (show some _ = some _ from hb.symm.trans hz'))]
          exact hz'
        · rw [Ls, upd_ne (fun e => by rw [e] at ht; cases (show some _ = some _ from hb.symm.trans ht))]
          exact ht
      · have c1' : ¬ 0 < z := fun h => c1 (decide_eq_true h)
        refine ⟨⟨_, _, _, _, rfl⟩, ?_, hz', hs2, ht⟩
        rw [ts, filterMap_snoc, show putB l0 l1 l2 k = none from by unfold putB; rw [hmv]; exact if_neg c1']
        simp only [Option.toList_none, List.append_nil]
        exact hb
  · rintro σ H2 ⟨⟨u, v, x0, y0, rfl⟩, hb, hz, hs2, ht⟩
    have e : ((keysB l1 l2).map V.int).length = (keysB l1 l2).length := by simp
    rw [e, List.take_length] at hb hz
    refine ⟨_, rfl, _, rfl, szr, fun y ny => ?_⟩
    have s5 := same_upd (o := .tup [V.ref D, V.ref Z]) ny
    exact hQ y D Z _ (hs2.trans s5) (hs2.free ny) nD nZ0 upd_same (s5 _ _ hb) (s5 _ _ hz)
end
end K80
end
section
set_option maxHeartbeats 4000000
namespace K80
open PySem PySem.Spec PyProof.Rows L2 Inf
section
variable {P : Program} {w : World} {K : PySem.W.Frag} {mg : Str → Option Value} {base : Heap} {f : Addr} {fd : FuncData}
/-- a lawful book -/
structure LawB (kvs : List (Int × Int)) (n : Nat) : Prop where
  ok : NdOk kvs n
  rz : rz kvs n = none
def two (a b : Int) : List Int := srt [a, b]
def sp_merge_two (CR CA CN CP CU : Addr) (K : PySem.W.Frag) : Sp := fun vs H Q E => ∃ (x : V) (a b c : Addr) (l0 l1 l2 : List (Int × Int)) (n : Nat), vs = [x, .ref a, .ref b, .ref c] ∧ RbI CR CA CN H x n ∧ n ≤ 30 ∧ Bk H a l0 ∧ Bk H b l1 ∧ Bk H c l2 ∧
  LawB l0 n ∧ LawB l1 n ∧ LawB l2 n ∧ l1.length + l2.length < 64 ∧ NdOk (mrgB l0 l1 l2) n ∧
  (clsB l0 l1 l2 = [] → rz (mrgB l0 l1 l2) n = none → ∀ p H', Same H H' → H p = none → Bk H' p (mrgB l0 l1 l2) → Q (.ref p) H') ∧
  (clsB l0 l1 l2 = [] → ∀ k br, rz (mrgB l0 l1 l2) n = some (k, br) → ∀ d y H', Same H H' → H' d = some (.xd [("bar", y), ("key", .str k)]) → Br H' y br → E (.ref CU) (some d) H') ∧
  ∀ q r, clsB l0 l1 l2 = q :: r → ∀ d l H', Same H H' → H' d = some (.xd [("found", .ref l), ("place", .int q)]) → Ls H' l (two (gv l1 q) (gv l2 q)) → E (.ref CP) (some d) H'
theorem ok_merge_two {CR CA CN CP CU : Addr} (F : FnP K "merge_two" "merge_two" s_merge_two f fd) (B : BT mg) (G_ascending : Has P w K mg base CX0 1 "ascending" (sp_ascending K)) (G_value_at : Has P w K mg base CX0 1 "value_at" (sp_value_at K))
    (G_require_lawful : Has P w K mg base CX0 6 "require_lawful" (sp_require_lawful CR CA CN)) (G_value_merge : Has P w K mg base CX0 2 "value_merge" (sp_value_merge K)) (M_RuleBook_reason : HasM P w K mg base CX0 5 CR "reason" (sp_RuleBook_reason CR CA CN K))
    (X_PlaceClash : HasX P w K mg base 1 "PlaceClash" CP (sp_PlaceClash_init CP K)) (X_RuleClash : HasX P w K mg base 1 "RuleClash" CU (sp_RuleClash_init CU)) :
    FnOk P w K mg base (L2N.CX P w) 7 f fd ["rulebook", "base", "first", "second"] (sp_merge_two CR CA CN CP CU K) := by
  refine okXN F sc_merge_two (fun vs H Q E h => ?_) (fun cdv A outer s H vs Q E hr h => ?_)
  · obtain ⟨_, _, _, _, _, _, _, _, rfl, _⟩ := h
    rfl
  obtain ⟨x, a, b, c, l0, l1, l2, n, rfl, hR, hn, h0, h1, h2, L0, L1, L2', hl, okm, hQ, hE1, hE2⟩ := h
  have hu := hu_of hr
  refine ⟨_, pss_cons (ps_for (passes_of rfl) rfl (pi_list (pe_lst (pa_cons (pv 1) (pa_cons (pv 2) (pa_cons (pv 3) pa_nil))))) (pg_name (i := 4) sc_merge_two.nd rfl (Or.inl rfl))
     (pss_one (ps_expr (pe_c G_require_lawful hr (pa_cons (pv 0) (pa_cons (pv 4) pa_nil))))))
    (pss_cons (ps_asg (pe_c G_value_merge hr (pa_cons (pv 1) (pa_cons (pe_lst pa_nil) (pa_cons (pv 2) (pa_cons (pv 3) pa_nil))))) (pg_tup rfl (pgs_cons (pg_name (i := 5) sc_merge_two.nd rfl (Or.inl rfl)) (pgs_cons (pg_name (i := 6) sc_merge_two.nd rfl (Or.inl rfl)) pgs_nil))))
    (pss_cons (ps_if (pt_cmpR op_gt (pe_callB call_len_seq (by rfl) B.len (by decide +kernel) (pa_cons (pv 6) pa_nil)) pe_int (nomark _))
     (pss_cons (ps_set (i := 7) sc_merge_two.nd rfl (.inl rfl) (pe_ix ix_list (pv 6) pe_int (fun _ _ => rfl)))
     (pss_one (L2N.ps_raise rfl (L2N.takes_of rfl rfl rfl rfl) (pmk_x X_PlaceClash hr (pa_cons (pv 7) (pa_cons (pe_c G_ascending hr (pa_cons (pe_lst (pa_cons (pe_c G_value_at hr (pa_cons (pv 2) (pa_cons (pv 7) pa_nil))) (pa_cons (pe_c G_value_at hr (pa_cons (pv 3) (pa_cons (pv 7) pa_nil))) pa_nil))) pa_nil)) pa_nil))))))
     pss_nil)
    (pss_cons (ps_set (i := 8) sc_merge_two.nd rfl (.inl rfl) (pe_mt M_RuleBook_reason hr (pv 0) (pa_cons (pv 5) pa_nil)))
    (pss_cons (ps_if (pt_cmp (pc_notN (pv 8)))
     (pss_one (L2N.ps_raise rfl (L2N.takes_of rfl rfl rfl rfl) (pmk_x X_RuleClash hr (pa_cons (pe_ix ix_tup (pv 8) pe_int (fun _ _ => rfl)) (pa_cons (pe_ix ix_tup (pv 8) pe_int (fun _ _ => rfl)) pa_nil)))))
     pss_nil)
    (pss_one (ps_ret (pv 5))))))), ?_⟩
  refine ⟨_, rfl, _, rfl, _, rfl, szr, fun L nL => ?_⟩
  have sL := same_upd (o := .lst [V.ref a, V.ref b, V.ref c]) nL
  have hL : upd H L (.lst [V.ref a, V.ref b, V.ref c]) L = some (.lst [V.ref a, V.ref b, V.ref c]) := upd_same
  generalize upd H L (.lst [V.ref a, V.ref b, V.ref c]) = H0 at sL hL
  refine ⟨L, rfl, ⟨_, SqL.of hL⟩, ?_⟩
  refine for_it (walk_list (xs := [V.ref a, V.ref b, V.ref c])) (fun i σ H' => (∃ u, σ = [some x, some (.ref a), some (.ref b), some (.ref c), u, none, none, none, none]) ∧ Same H0 H') ⟨⟨_, rfl⟩, Same.refl _⟩ (fun i σ H' _ p => p.2.seq (SqL.of hL)) ?_ ?_
  · rintro i y σ H1 H2 hi ⟨⟨u, rfl⟩, hs⟩ ⟨rfl, hy⟩
    have sH := sL.trans hs
    have main : ∀ z kvs, y = .ref z → Bk H z kvs → LawB kvs n → ∃ (x0 : V) (a0 : Addr) (kvs : List (Int × Int)) (m : Nat), [x, y] = [x0, .ref a0] ∧ RbI CR CA CN H2 x0 m ∧ Bk H2 a0 kvs ∧ m ≤ 30 ∧ NdOk kvs m ∧ rz kvs m = none ∧ ∀ H', Same H2 H' → (∃ u, [some x, some (.ref a), some (.ref b), some (.ref c), some y, none, none, none, none] = [some x, some (.ref a), some (.ref b), some (.ref c), u, none, none, none, none]) ∧ Same H0 H' :=
      fun z kvs e hB hlaw => ⟨x, z, kvs, n, by rw [e], hR.same sH, sH _ _ hB, hn, hlaw.ok, hlaw.rz, fun H' h' => ⟨⟨_, rfl⟩, hs.trans h'⟩⟩
    match i, hi, hy with
    | 0, _, hy =>
      cases hy
      exact ⟨_, rfl, _, rfl, main a l0 rfl h0 L0⟩
    | 1, _, hy =>
      cases hy
      exact ⟨_, rfl, _, rfl, main b l1 rfl h1 L1⟩
    | 2, _, hy =>
      cases hy
      exact ⟨_, rfl, _, rfl, main c l2 rfl h2 L2'⟩
    | m + 3, hi, _ => exact absurd hi (by simp)
  · rintro σ H1 ⟨⟨u, rfl⟩, hs⟩
    have s1 := sL.trans hs
    refine ⟨_, rfl, szr, fun e ne => ?_⟩
    have s2 := same_upd (o := .lst []) ne
    refine ⟨_, rfl, _, rfl, a, e, b, c, l0, l1, l2, rfl, s2 _ _ (s1 _ _ h0), upd_same, s2 _ _ (s1 _ _ h1), s2 _ _ (s1 _ _ h2), hl, fun t d g H2 h2s nt nd ng ht hd hg => ?_⟩
    have s3 := (s1.trans s2).trans h2s
    refine ⟨t, _, rfl, SqT.of ht, rfl, _, _, rfl, _, _, rfl, rfl, ?_⟩
    have nd0 : H d = none := (s1.trans s2).free nd
    refine ⟨_, rfl, g, _, rfl, .inl hg.sq, _, _, rfl, rfl, _, rfl, ?_⟩
    cases hcl : clsB l0 l1 l2 with
    | cons q r =>
      rw [hcl] at hg
      rw [show (decide ((0 : Int) < ((List.map V.int (q :: r)).length : Int))) = true from decide_eq_true (by simp)]
      refine iteT ?_
      refine ⟨_, rfl, _, _, _, _, rfl, rfl, hg.sq, atI_nat (j := 0) (v := .int q) (by simp), ?_⟩
      refine ⟨_, rfl, _, rfl, _, rfl, b, l1, q, rfl, s3 _ _ h1, _, rfl, _, rfl, c, l2, q, rfl, s3 _ _ h2, szr, fun p np => ?_⟩
      have s4 := same_upd (o := .lst [V.int ((get l1 q).getD 0), V.int ((get l2 q).getD 0)]) np
      refine ⟨p, [gv l1 q, gv l2 q], rfl, .inl (SqL.of upd_same), Nat.le_of_ble_eq_true rfl, fun ks f2 H4 pw hm h4s nf hf => ?_⟩
      obtain rfl : ks = two (gv l1 q) (gv l2 q) := srt_eq pw hm
      have s5 := (s3.trans s4).trans h4s
      refine ⟨Nat.le_of_ble_eq_true rfl, fun ea na => ?_⟩
      refine ⟨ea, f2, _, two (gv l1 q) (gv l2 q), rfl, upd_same, ?_, fun dx l' H5 b5 ndx h5 h5d hl' nl' => ?_⟩
      · rw [Ls, upd_ne (fun e => by rw [← e] at na; rw [hf] at na; cases na)]
        exact hf
      · have ndx4 : H4 dx = none := by
          by_cases z : dx = ea
          · rw [z]; exact na
          · rw [upd_ne z] at ndx; exact ndx
        refine ⟨rfl, dx, _, h5, h5d, ndx4, hE2 q r hcl dx l' _ (s5.trans (same_exc na ndx4 b5)) upd_same ?_⟩
        rw [Ls, upd_ne (fun e => by rw [e] at hl'; cases (show some _ = some _ from h5d.symm.trans hl')), del_ne nl']
        exact hl'
    | nil =>
      rw [show (decide ((0 : Int) < ((List.map V.int ([] : List Int)).length : Int))) = false from rfl]
      refine iteF ?_
      have hR2 := hR.same s3
      obtain ⟨xa, dx, l, y1, y2, rfl, hxa, r3, r4, r5⟩ := hR2
      refine ⟨_, rfl, xa, dx, _, rfl, hxa, rfl, _, rfl, _, d, _, n, rfl, ⟨xa, dx, l, y1, y2, rfl, hxa, r3, r4, r5⟩, hd, hn, okm, fun v H3 h3s hv => ?_⟩
      have s4 := s3.trans h3s
      refine ⟨_, rfl, _, rfl, ?_⟩
      cases hrz : rz (mrgB l0 l1 l2) n with
      | none =>
        rw [hrz] at hv
        obtain rfl : v = V.non := hv
        exact iteF ⟨_, rfl, hQ hcl hrz d _ s4 nd0 (h3s _ _ hd)⟩
      | some p =>
        obtain ⟨k, br⟩ := p
        rw [hrz] at hv
        obtain ⟨tv, yb, rfl, htv, hbr⟩ := hv
        refine iteT ?_
        refine ⟨_, rfl, _, _, _, _, rfl, rfl, SqT.of htv, atI_nat (j := 0) (v := .str k) (by simp), _, rfl, _, _, _, _, rfl, rfl, SqT.of htv, atI_nat (j := 1) (v := yb) (by simp), Nat.le_of_ble_eq_true rfl, fun ea na => ?_⟩
        refine ⟨ea, _, _, rfl, upd_same, fun dx2 H5 b5 ndx h5 h5d => ?_⟩
        have ndx4 : H3 dx2 = none := by
          by_cases z : dx2 = ea
          · rw [z]; exact na
          · rw [upd_ne z] at ndx; exact ndx
        have s5 := same_exc (fs := [("bar", yb), ("key", .str k)]) na ndx4 b5
        exact ⟨rfl, dx2, _, h5, h5d, ndx4, hE1 hcl k br hrz dx2 yb _ (s4.trans s5) upd_same (Br.same s5 hbr)⟩
end
end K80
end
section
set_option maxHeartbeats 4000000
namespace K80
open PySem PySem.Spec PyProof.Rows L2 Inf
theorem fmod_pos (x : Int) {n : Int} (h : 0 < n) : 0 ≤ x.fmod n ∧ x.fmod n < n := by
  rw [Int.fmod_eq_emod_of_nonneg x (Int.le_of_lt h)]
  exact ⟨Int.emod_nonneg _ (by omega), Int.emod_lt_of_pos _ h⟩
theorem lo64 {x : Int} (h : 0 ≤ x) : -(2 ^ 64) < x := by omega
theorem hi64 {x : Int} (h : x < 2147483629) : x < 2 ^ 64 := by omega
section
variable {P : Program} {w : World} {K : PySem.W.Frag} {mg : Str → Option Value} {base : Heap} {f : Addr} {fd : FuncData}
/-! ### _law_open -/
def sp_open (K : PySem.W.Frag) : Sp := fun vs H Q _ => ∃ (a : Addr) (ns : List Int) (i : Nat), vs = [.ref a, .int i] ∧ SqL K H a (ns.map V.int) ∧ 
  ∀ (p : Addr) (m c : Int), H p = none → Q (.ref p) (upd H p (.lst [.int m, .int c, .int 0]))
theorem ok_open (F : FnP K "_law_open" "_law_open" s_open f fd) (B : BT mg) : FnOk P w K mg base CX0 1 f fd ["_law_script", "_law_at"] (sp_open K) := by
  refine okN F sc_open (fun vs H Q E h => ?_) (fun cdv A outer s H vs Q E hr h => ?_)
  · obtain ⟨_, _, _, rfl, _⟩ := h
    rfl
  obtain ⟨a, ns, i, rfl, hS, hQ⟩ := h
  refine ⟨_, pss_cons (ps_set (i := 2) sc_open.nd rfl (.inl rfl) pe_int)
    (C8.pss_cut (ps_if (pt_cmpR op_lt (pv 1) (pe_callB call_len_seq (by rfl) B.len PySem.boot_len (pa_cons (pv 0) pa_nil)) (nomark _)) (pss_one (ps_set (i := 2) sc_open.nd rfl (.inl rfl) (pe_ix ix_list (pv 0) (pv 1) (fun _ _ => rfl)))) pss_nil)
    (pss_cons (ps_if (pt_cmpR op_ge (pv 2) (pe_op op_pow pe_int pe_int) (nomark _)) (pss_one (ps_ret (pe_lst (pa_cons pe_int (pa_cons (pe_op op_sub (pv 2) (pe_op op_pow pe_int pe_int)) (pa_cons pe_int pa_nil)))))) pss_nil)
    (pss_one (ps_ret (pe_lst (pa_cons pe_int (pa_cons (pv 2) (pa_cons pe_int pa_nil)))))))), ?_⟩
  refine ⟨fun σ' H' => H' = H ∧ ∃ z : Int, σ' = [some (.ref a), some (.int i), some (.int z)], ?_, ?_⟩
  · refine ⟨_, rfl, _, rfl, _, _, rfl, .inl hS, _, _, rfl, rfl, _, rfl, ?_⟩
    refine ite2 (fun hlt => ?_) (fun _ => ⟨rfl, 0, rfl⟩)
    have hlt' : i < ns.length := by simpa using hlt
    refine ⟨_, rfl, _, rfl, _, _, _, _, rfl, rfl, hS, atI_nat (v := .int ns[i]) (by simp [hlt']), rfl, _, rfl⟩
  · rintro σ' H' ⟨rfl, z, rfl⟩
    refine ⟨_, rfl, _, _, rfl, rfl, ⟨by decide, by decide, by decide⟩, _, _, rfl, rfl, _, rfl, ?_⟩
    refine ite2 (fun _ => ?_) (fun _ => ?_)
    · refine ⟨_, rfl, _, _, rfl, rfl, ⟨by decide, by decide, by decide⟩, _, _, rfl, rfl, szr, fun p np => hQ p _ _ np⟩
    · refine ⟨_, rfl, szr, fun p np => hQ p _ _ np⟩

/-! ### _law_take -/
def Bx (H : Hp) (b : Addr) : Prop := Box H b
def sp_take : Sp := fun vs H Q _ => ∃ (b : Addr) (n : Int), vs = [.ref b, .int n] ∧ Box H b ∧ 0 < n ∧ n < 2 ^ 20 ∧ ∀ d H', 0 ≤ d → d < n → SameBut b H H' → Box H' b → Q (.int d) H'
theorem ok_take (F : FnP K "_law_take" "_law_take" s_take f fd) (B : BT mg) : FnOk P w K mg base CX0 1 f fd ["_law_box", "_law_size"] sp_take := by
  refine okN F sc_take (fun vs H Q E h => ?_) (fun cdv A outer s H vs Q E hr h => ?_)
  · obtain ⟨_, _, rfl, _⟩ := h
    rfl
  obtain ⟨b, n, rfl, ⟨m, c, k, hb⟩, hn, hn2, hQ⟩ := h
  refine ⟨_, pss_cons (ps_if (pt_cmpR op_eq (pe_ix ix_list (pv 0) pe_int (fun _ _ => rfl)) pe_int (nomark _))
     (pss_cons (ps_set (i := 2) sc_take.nd rfl (.inl rfl) (pe_op op_modN (pe_callTy call_int1 (by rfl) B.int (by decide +kernel) (pa_cons (pe_ix ix_list (pv 0) pe_int (fun _ _ => rfl)) pa_nil)) (pv 1)))
     (pss_cons (ps_asg (pe_op op_fdivN (pe_callTy call_int1 (by rfl) B.int (by decide +kernel) (pa_cons (pe_ix ix_list (pv 0) pe_int (fun _ _ => rfl)) pa_nil)) (pv 1)) (pg_sub (pv 0) pe_int set_list (fun _ => rfl)))
     (pss_one (ps_ret (pv 2)))))
     pss_nil)
    (pss_cons (ps_set (i := 3) sc_take.nd rfl (.inl rfl) (pe_ix ix_list (pv 0) pe_int (fun _ _ => rfl)))
    (pss_cons (ps_asg (pe_op op_add (pv 3) pe_int) (pg_sub (pv 0) pe_int set_list (fun _ => rfl)))
    (pss_cons (ps_set (i := 4) sc_take.nd rfl (.inl rfl) (pe_op op_modN (pe_callTy call_int1 (by rfl) B.int (by decide +kernel) (pa_cons (pe_op op_add (pe_op op_add (pe_ix ix_list (pv 0) pe_int (fun _ _ => rfl)) (pe_op op_mul pe_int (pv 3))) pe_int) pa_nil)) pe_int))
    (pss_cons (ps_set (i := 4) sc_take.nd rfl (.inl rfl) (pe_op op_modN (pe_callTy call_int1 (by rfl) B.int (by decide +kernel) (pa_cons (pe_op op_mul (pv 4) (pe_op op_add (pv 4) pe_int)) pa_nil)) pe_int))
    (pss_cons (ps_set (i := 4) sc_take.nd rfl (.inl rfl) (pe_op op_modN (pe_callTy call_int1 (by rfl) B.int (by decide +kernel) (pa_cons (pe_op op_add (pe_op op_mul (pv 4) (pe_op op_add (pv 4) pe_int)) (pe_op op_mul pe_int (pv 3))) pa_nil)) pe_int))
    (pss_one (ps_ret (pe_op op_modN (pe_callTy call_int1 (by rfl) B.int (by decide +kernel) (pa_cons (pe_op op_fdivN (pv 4) pe_int) pa_nil)) (pv 1))))))))), ?_⟩
  have at0 : ∀ {x y z : Int}, atI [V.int x, V.int y, V.int z] 0 = some (.int x) := fun {x y z} => atI_nat (j := 0) (by simp)
  have at1 : ∀ {x y z : Int}, atI [V.int x, V.int y, V.int z] 1 = some (.int y) := fun {x y z} => atI_nat (j := 1) (by simp)
  have at2 : ∀ {x y z : Int}, atI [V.int x, V.int y, V.int z] 2 = some (.int z) := fun {x y z} => atI_nat (j := 2) (by simp)
  refine ⟨_, rfl, _, _, _, _, rfl, rfl, SqL.of hb, at0, rfl, _, rfl, ?_⟩
  refine ite2 (fun _ => ?_) (fun _ => ?_)
  · refine ⟨_, rfl, _, _, _, _, rfl, rfl, SqL.of hb, at1, .inl ⟨_, rfl, ?_⟩⟩
    refine ⟨_, rfl, _, _, rfl, rfl, by omega, ?_⟩
    refine ⟨_, rfl, _, _, _, _, rfl, rfl, SqL.of hb, at1, .inl ⟨_, rfl, ?_⟩⟩
    refine ⟨_, rfl, _, _, rfl, rfl, ⟨by omega, by omega⟩, ?_⟩
    refine ⟨_, rfl, b, _, _, 1, rfl, rfl, hb, rfl, ?_⟩
    obtain ⟨h1, h2⟩ := fmod_pos c hn
    exact ⟨_, rfl, hQ _ _ h1 h2 SameBut.upd ⟨_, _, _, upd_same⟩⟩
  · refine ⟨_, rfl, _, _, _, _, rfl, rfl, SqL.of hb, at2, ?_⟩
    refine ⟨_, rfl, _, _, rfl, rfl, _, rfl, b, _, _, 2, rfl, rfl, hb, rfl, ?_⟩
    generalize hH1 : upd H b (.lst (List.set [V.int m, V.int c, V.int k] 2 (.int (k + 1)))) = H1
    have hb1 : H1 b = some (.lst [V.int m, V.int c, V.int (k + 1)]) := by rw [← hH1]; exact upd_same
    have sb : SameBut b H H1 := by rw [← hH1]; exact SameBut.upd
    refine ⟨_, rfl, _, _, _, _, rfl, rfl, SqL.of hb1, at1, _, rfl, _, _, rfl, rfl, .inl ⟨by decide, by decide⟩, _, _, rfl, rfl, _, _, rfl, rfl, .inl ⟨_, rfl, ?_⟩⟩
    refine ⟨_, _, rfl, rfl, by show (_ : Int) ≠ 0; decide, ?_⟩
    have z1 := fmod_pos (c + 7919 * k + 13) (n := 2147483647) (by decide)
    refine ⟨_, rfl, _, rfl, _, _, rfl, rfl, _, _, rfl, rfl, .inl ⟨by have := z1; omega, by have := z1; omega⟩, .inl ⟨_, rfl, ?_⟩⟩
    refine ⟨_, _, rfl, rfl, by show (_ : Int) ≠ 0; decide, ?_⟩
    have z2 := fun x : Int => fmod_pos x (n := 2147483629) (by decide)
    refine ⟨_, rfl, _, rfl, _, _, rfl, rfl, _, _, rfl, rfl, .inl ⟨lo64 (z2 _).1, hi64 (z2 _).2⟩, _, rfl, _, _, rfl, rfl, .inl ⟨by decide, by decide⟩, _, _, rfl, rfl, .inl ⟨_, rfl, ?_⟩⟩
    refine ⟨_, _, rfl, rfl, by show (_ : Int) ≠ 0; decide, ?_⟩
    refine ⟨_, rfl, _, _, rfl, rfl, ⟨by decide, by decide⟩, .inl ⟨_, rfl, ?_⟩⟩
    refine ⟨_, rfl, _, _, rfl, rfl, by omega, ?_⟩
    exact hQ _ _ (fmod_pos _ hn).1 (fmod_pos _ hn).2 sb ⟨_, _, _, hb1⟩
/-! ### _law_is_book, _law_ints -/
theorem kitI (K : PySem.W.Frag) : PySem.W.kitOne K (.type "int") (.type "int") = some true := by kernel_rfl
theorem kitB (K : PySem.W.Frag) : PySem.W.kitOne K (.type "int") (.type "bool") = some false := by kernel_rfl
theorem kitD (K : PySem.W.Frag) : PySem.W.kitOne K (.type "dict") (.type "dict") = some true := by kernel_rfl
theorem kitL (K : PySem.W.Frag) : PySem.W.kitOne K (.type "list") (.type "list") = some true := by kernel_rfl
theorem kitT (K : PySem.W.Frag) : PySem.W.kitOne K (.type "tuple") (.type "tuple") = some true := by kernel_rfl
def sp_ints : Sp := fun vs H Q _ => ∃ (a : Addr) (ns : List Int), vs = [.ref a] ∧ Ls H a ns ∧ Q (.bl true) H
theorem ok_ints (F : FnP K "_law_ints" "_law_ints" s_ints f fd) (B : BT mg) : FnOk P w K mg base CX0 1 f fd ["_law_told"] sp_ints := by
  refine okN F sc_ints (fun vs H Q E h => ?_) (fun cdv A outer s H vs Q E hr h => ?_)
  · obtain ⟨_, _, rfl, _⟩ := h
    rfl
  obtain ⟨a, ns, rfl, hL, hQ⟩ := h
  refine ⟨_, pss_cons (ps_if (pt_not (pt_val (pe_callB call_isi (by rfl) B.isinstance (by decide +kernel) (pa_cons (pv 0) (pa_cons (pe_bltn (v := .ty "list") (u := .type "list") (by rfl) B.list (by decide +kernel) rfl) pa_nil)))))
     (pss_one (ps_ret pe_bl))
     pss_nil)
    (pss_cons (ps_for PassesOwn.never rfl (pi_list (pv 0)) (pg_name (i := 1) sc_ints.nd rfl (Or.inl rfl))
     (pss_one (ps_if (PW.pt (pw_or (pt_not (pt_val (pe_callB call_isi (by rfl) B.isinstance (by decide +kernel) (pa_cons (pv 1) (pa_cons (pe_bltn (v := .ty "int") (u := .type "int") (by rfl) B.int (by decide +kernel) rfl) pa_nil))))) (pw_or1 (pt_val (pe_callB call_isi (by rfl) B.isinstance (by decide +kernel) (pa_cons (pv 1) (pa_cons (pe_bltn (v := .ty "bool") (u := .type "bool") (by rfl) B.bool (by decide +kernel) rfl) pa_nil)))))))
      (pss_one (ps_ret pe_bl))
      pss_nil)))
    (pss_one (ps_ret pe_bl))), ?_⟩
  refine ⟨_, rfl, _, _, _, _, true, rfl, .ty "list", .base (.lst hL), kitL K, true, rfl, iteF ?_⟩
  refine ⟨_, rfl, a, rfl, ⟨_, hL.sq⟩, ?_⟩
  refine for_it (walk_list (xs := ns.map V.int)) (fun i σ H' => (∃ u, σ = [some (.ref a), u]) ∧ H' = H) ⟨⟨_, rfl⟩, rfl⟩ (fun i σ H' _ p => by rw [p.2]; exact hL.sq) ?_ ?_
  · rintro i x σ H1 H2 hi ⟨⟨u, rfl⟩, rfl⟩ ⟨rfl, hx⟩
    rw [List.getElem?_map] at hx
    obtain ⟨z, hz, rfl⟩ := Option.map_eq_some_iff.mp hx
    refine ⟨_, rfl, _, _, _, _, true, rfl, .ty "int", .base (.int z), kitI K, true, rfl, iteF ?_⟩
    exact ⟨_, rfl, _, _, _, _, false, rfl, .ty "bool", .base (.int z), kitB K, false, rfl, iteF ⟨⟨_, rfl⟩, rfl⟩⟩
  · rintro σ H1 ⟨⟨u, rfl⟩, rfl⟩
    exact hQ
def sp_is_book : Sp := fun vs H Q _ => ∃ (a : Addr) (kvs : List (Int × Int)), vs = [.ref a] ∧ Bk H a kvs ∧ (kvs.map (·.1)).Nodup ∧ Q (.bl true) H
theorem ok_is_book (F : FnP K "_law_is_book" "_law_is_book" s_is_book f fd) (B : BT mg) : FnOk P w K mg base CX0 1 f fd ["_law_told"] sp_is_book := by
  refine okN F sc_is_book (fun vs H Q E h => ?_) (fun cdv A outer s H vs Q E hr h => ?_)
  · obtain ⟨_, _, rfl, _⟩ := h
    rfl
  obtain ⟨a, kvs, rfl, hL, nd, hQ⟩ := h
  have hu := hu_of hr
  refine ⟨_, pss_cons (ps_if (pt_not (pt_val (pe_callB call_isi (by rfl) B.isinstance (by decide +kernel) (pa_cons (pv 0) (pa_cons (pe_bltn (v := .ty "dict") (u := .type "dict") (by rfl) B.dict (by decide +kernel) rfl) pa_nil)))))
     (pss_one (ps_ret pe_bl))
     pss_nil)
    (pss_cons (ps_lock (ps_for PassesOwn.never rfl (pi_keys (pv 0)) (pg_name (i := 1) sc_is_book.nd rfl (Or.inl rfl))
     (pss_cons (ps_if (PW.pt (pw_or (pt_not (pt_val (pe_callB call_isi (by rfl) B.isinstance (by decide +kernel) (pa_cons (pv 1) (pa_cons (pe_bltn (v := .ty "int") (u := .type "int") (by rfl) B.int (by decide +kernel) rfl) pa_nil))))) (pw_or1 (pt_val (pe_callB call_isi (by rfl) B.isinstance (by decide +kernel) (pa_cons (pv 1) (pa_cons (pe_bltn (v := .ty "bool") (u := .type "bool") (by rfl) B.bool (by decide +kernel) rfl) pa_nil)))))))
      (pss_one (ps_ret pe_bl))
      pss_nil)
     (pss_one (ps_if (PW.pt (pw_or (pt_not (pt_val (pe_callB call_isi (by rfl) B.isinstance (by decide +kernel) (pa_cons (pe_dget hu (pv 0) (pv 1) (fun _ _ => rfl)) (pa_cons (pe_bltn (v := .ty "int") (u := .type "int") (by rfl) B.int (by decide +kernel) rfl) pa_nil))))) (pw_or1 (pt_val (pe_callB call_isi (by rfl) B.isinstance (by decide +kernel) (pa_cons (pe_dget hu (pv 0) (pv 1) (fun _ _ => rfl)) (pa_cons (pe_bltn (v := .ty "bool") (u := .type "bool") (by rfl) B.bool (by decide +kernel) rfl) pa_nil)))))))
      (pss_one (ps_ret pe_bl))
      pss_nil)))))
    (pss_one (ps_ret pe_bl))), ?_⟩
  refine ⟨_, rfl, _, _, _, _, true, rfl, .ty "dict", .base (.dK hL), kitD K, true, rfl, iteF ?_⟩
  refine ⟨a, _, hL, True.intro, fun od => ?_⟩
  refine ⟨_, rfl, a, od, rfl, .inl ⟨_, upd_same, ?_⟩⟩
  refine for_it walk_keys (fun i σ H' => (∃ u, σ = [some (.ref a), u]) ∧ H' = upd H a (.frz od (.dK (kvI kvs)))) ⟨⟨_, rfl⟩, rfl⟩ (fun i σ H' _ p => by rw [p.2]; exact upd_same) ?_ ?_
  · rintro i x σ H1 H2 hi ⟨⟨u, rfl⟩, rfl⟩ ⟨rfl, k, v, hk, rfl⟩
    unfold kvI at hk
    rw [List.getElem?_map] at hk
    obtain ⟨z, hz, e⟩ := Option.map_eq_some_iff.mp hk
    cases e
    have hg : DGet (upd H a (.frz od (.dK (kvI kvs)))) a (.int z.1) (some (.int z.2)) := by
      refine .inl ⟨kvI kvs, .inl z.1, .inr ⟨od, upd_same⟩, rfl, ?_⟩
      rw [valV_kvI, get_of_mem nd (List.mem_of_getElem? hz)]
      rfl
    refine ⟨_, rfl, _, _, _, _, true, rfl, .ty "int", .base (.int z.1), kitI K, true, rfl, iteF ?_⟩
    refine ⟨_, rfl, _, _, _, _, false, rfl, .ty "bool", .base (.int z.1), kitB K, false, rfl, iteF ?_⟩
    refine ⟨_, rfl, _, rfl, a, _, rfl, hg, _, _, _, _, true, rfl, .ty "int", .base (.int z.2), kitI K, true, rfl, iteF ?_⟩
    exact ⟨_, rfl, _, rfl, a, _, rfl, hg, _, _, _, _, false, rfl, .ty "bool", .base (.int z.2), kitB K, false, rfl, iteF ⟨⟨_, rfl⟩, rfl⟩⟩
  · rintro σ H1 ⟨⟨u, rfl⟩, rfl⟩
    refine ⟨upd_same, ?_⟩
    have e : upd (upd H a (.frz od (.dK (kvI kvs)))) a (.dK (kvI kvs)) = H := by
      funext z
      by_cases n : z = a
      · rw [n, upd_same]; exact hL.symm
      · rw [upd_ne n, upd_ne n]
    rw [e]
    exact hQ
/-- .. called while an error is handled -/
theorem hot_ints (F : FnP K "_law_ints" "_law_ints" s_ints f fd) (B : BT mg) : L2H.FnH P w K mg base CX0 1 f fd ["_law_told"] sp_ints := by
  obtain ⟨oc, od, dV, kV, doc, pm, an, cdv, ct, osl, rfl, lk, hcd, _, _⟩ := F.ex
  refine L2H.fn_ofH lk hcd sc_ints (fun vs H Q E h => ?_) (fun A outer s H vs Q E p hot hr h => ?_)
  · obtain ⟨_, _, rfl, _⟩ := h
    rfl
  obtain ⟨a, ns, rfl, hL, hQ⟩ := h
  refine ⟨_, pss_cons (ps_if (pt_not (pt_val (pe_callB call_isi (by rfl) B.isinstance (by decide +kernel) (pa_cons (pv 0) (pa_cons (pe_bltn (v := .ty "list") (u := .type "list") (by rfl) B.list (by decide +kernel) rfl) pa_nil)))))
     (pss_one (ps_ret pe_bl))
     pss_nil)
    (pss_cons (L2H.ps_forH (passes_of rfl) ⟨p, hot, List.mem_singleton_self _⟩ (pi_listH (pv 0)) (pg_name (i := 1) sc_ints.nd rfl (Or.inl rfl))
     (pss_one (ps_if (PW.pt (pw_or (pt_not (pt_val (pe_callB call_isi (by rfl) B.isinstance (by decide +kernel) (pa_cons (pv 1) (pa_cons (pe_bltn (v := .ty "int") (u := .type "int") (by rfl) B.int (by decide +kernel) rfl) pa_nil))))) (pw_or1 (pt_val (pe_callB call_isi (by rfl) B.isinstance (by decide +kernel) (pa_cons (pv 1) (pa_cons (pe_bltn (v := .ty "bool") (u := .type "bool") (by rfl) B.bool (by decide +kernel) rfl) pa_nil)))))))
      (pss_one (ps_ret pe_bl))
      pss_nil)))
    (pss_one (ps_ret pe_bl))), ?_⟩
  refine ⟨_, rfl, _, _, _, _, true, rfl, .ty "list", .base (.lst hL), kitL K, true, rfl, iteF ?_⟩
  refine ⟨_, rfl, a, rfl, ⟨_, hL.sq⟩, ?_⟩
  refine for_it (walk_list (xs := ns.map V.int)) (fun i σ H' => (∃ u, σ = [some (.ref a), u]) ∧ H' = H) ⟨⟨_, rfl⟩, rfl⟩ (fun i σ H' _ p => by rw [p.2]; exact hL.sq) ?_ ?_
  · rintro i x σ H1 H2 hi ⟨⟨u, rfl⟩, rfl⟩ ⟨rfl, hx⟩
    rw [List.getElem?_map] at hx
    obtain ⟨z, hz, rfl⟩ := Option.map_eq_some_iff.mp hx
    refine ⟨_, rfl, _, _, _, _, true, rfl, .ty "int", .base (.int z), kitI K, true, rfl, iteF ?_⟩
    exact ⟨_, rfl, _, _, _, _, false, rfl, .ty "bool", .base (.int z), kitB K, false, rfl, iteF ⟨⟨_, rfl⟩, rfl⟩⟩
  · rintro σ H1 ⟨⟨u, rfl⟩, rfl⟩
    exact hQ
end
end K80
end
section
set_option maxHeartbeats 4000000
namespace K80
open PySem PySem.Spec PyProof.Rows L2 Inf
abbrev Std := List (Int × Int)
def row (rows : Std) (i : Nat) : Int × Int := (rows[i]?).getD (0, 0)
theorem row_of {rows : Std} {i : Nat} {p : Int × Int} (h : rows[i]? = some p) : row rows i = p := by unfold row; rw [h]; rfl
theorem row_get {rows : Std} {i : Nat} (h : i < rows.length) : rows[i]? = some (row rows i) := by
  unfold row
  simp [h]
def bkE (i : Nat) (r : Int × Int) : List (Int × Int) := (if 0 < r.1 then [(2 * (i : Int), r.1)] else []) ++ (if 0 < r.2 then [(2 * (i : Int) + 1, r.2)] else [])
def bookTo (rows : Std) (n : Nat) : List (Int × Int) := (List.range n).flatMap fun j => bkE (1 + j) (row rows (1 + j))
def bookOf (rows : Std) : List (Int × Int) := bookTo rows (rows.length - 1)
theorem bookTo_succ (rows : Std) (n : Nat) : bookTo rows (n + 1) = bookTo rows n ++ bkE (1 + n) (row rows (1 + n)) := by
  unfold bookTo
  rw [List.range_succ, List.flatMap_append, List.flatMap_singleton]
theorem bkE_keys {i : Nat} {r : Int × Int} {k : Int} (h : k ∈ (bkE i r).map (·.1)) : (k = 2 * (i : Int) ∧ 0 < r.1) ∨ (k = 2 * (i : Int) + 1 ∧ 0 < r.2) := by
  unfold bkE at h
  rw [List.map_append, List.mem_append] at h
  rcases h with h | h
  · split at h
    · simp at h; exact .inl ⟨h, by assumption⟩
    · simp at h
  · split at h
    · simp at h; exact .inr ⟨h, by assumption⟩
    · simp at h
theorem bkE_len (i : Nat) (r : Int × Int) : (bkE i r).length ≤ 2 := by
  unfold bkE
  split <;> split <;> simp
theorem bookTo_len (rows : Std) (n : Nat) : (bookTo rows n).length ≤ 2 * n := by
  induction n with
  | zero => simp [bookTo]
  | succ n ih =>
    rw [bookTo_succ, List.length_append]
    have := bkE_len (1 + n) (row rows (1 + n))
    omega
theorem bookTo_keys {rows : Std} {k : Int} : ∀ {n : Nat}, k ∈ (bookTo rows n).map (·.1) → ∃ i, 1 ≤ i ∧ i ≤ n ∧ ((k = 2 * (i : Int) ∧ 0 < (row rows i).1) ∨ (k = 2 * (i : Int) + 1 ∧ 0 < (row rows i).2))
  | 0, h => by simp [bookTo] at h
  | n + 1, h => by
    rw [bookTo_succ, List.map_append, List.mem_append] at h
    rcases h with h | h
    · obtain ⟨i, a, b, c⟩ := bookTo_keys h
      exact ⟨i, a, by omega, c⟩
    · exact ⟨1 + n, by omega, by omega, bkE_keys h⟩
theorem bookTo_new {rows : Std} {n : Nat} {k : Int} (h : 2 * ((1 + n : Nat) : Int) ≤ k) : get (bookTo rows n) k = none := by
  rw [get_none]
  intro m
  obtain ⟨i, a, b, c⟩ := bookTo_keys m
  rcases c with ⟨e, _⟩ | ⟨e, _⟩ <;> omega
/-! the arrangement, the highest item first -/
def arE (i : Nat) (r : Int × Int) : Option (Int × (Int × Int)) := if 0 < r.1 then some (r.1, ((i : Int), r.2)) else none
def arrTo (rows : Std) (n : Nat) : Arr := (List.range n).filterMap fun j => arE (rows.length - 1 - j) (row rows (rows.length - 1 - j))
def arrD (rows : Std) : Arr := arrTo rows (rows.length - 1)
theorem arrTo_succ (rows : Std) (n : Nat) : arrTo rows (n + 1) = arrTo rows n ++ (arE (rows.length - 1 - n) (row rows (rows.length - 1 - n))).toList := by
  unfold arrTo
  rw [List.range_succ, filterMap_snoc]
theorem arrTo_len (rows : Std) (n : Nat) : (arrTo rows n).length ≤ n := by
  have := List.length_filterMap_le (fun j => arE (rows.length - 1 - j) (row rows (rows.length - 1 - j))) (List.range n)
  rw [List.length_range] at this
  exact this
theorem mem_arrTo {rows : Std} {n : Nat} {e : Int × (Int × Int)} (h : e ∈ arrTo rows n) : ∃ j, j < n ∧ 0 < (row rows (rows.length - 1 - j)).1 ∧ e = ((row rows (rows.length - 1 - j)).1, (((rows.length - 1 - j : Nat) : Int), (row rows (rows.length - 1 - j)).2)) := by
  obtain ⟨j, hj, h2⟩ := List.mem_filterMap.mp h
  unfold arE at h2
  split at h2
  · rename_i hp
    exact ⟨j, List.mem_range.mp hj, hp, (Option.some.inj h2).symm⟩
  · cases h2
/-- no position twice -/
def Inj (rows : Std) : Prop := ∀ i j, 0 < (row rows i).1 → (row rows i).1 = (row rows j).1 → i = j
section
variable {P : Program} {w : World} {K : PySem.W.Frag} {mg : Str → Option Value} {base : Heap} {f : Addr} {fd : FuncData}
theorem st_row {H : Hp} {xs : List V} {rows : Std} (p : Paired (Row H) xs rows) {i : Nat} (h : i < rows.length) : ∃ t, atI xs ((i : Nat) : Int) = some (.ref t) ∧ H t = some (.lst [.int (row rows i).1, .int (row rows i).2]) := by
  obtain ⟨x, hx, t, rfl, ht⟩ := paired_at' p (row_get h)
  exact ⟨t, atI_nat hx, ht⟩
theorem at2_0 (p : Int × Int) : atI [V.int p.1, V.int p.2] 0 = some (.int p.1) := atI_nat (j := 0) (by simp)
theorem at2_1 (p : Int × Int) : atI [V.int p.1, V.int p.2] 1 = some (.int p.2) := atI_nat (j := 1) (by simp)
/-! ### _law_book_of -/
def sp_book_of (K : PySem.W.Frag) : Sp := fun vs H Q _ => ∃ (a : Addr) (rows : Std), vs = [.ref a] ∧ St H a rows ∧ 0 < rows.length ∧ rows.length ≤ 100 ∧ ∀ p H', Same H H' → H p = none → Bk H' p (bookOf rows) → Q (.ref p) H'
theorem ok_book_of (F : FnP K "_law_book_of" "_law_book_of" s_book_of f fd) (B : BT mg) : FnOk P w K mg base CX0 1 f fd ["_law_stand"] (sp_book_of K) := by
  refine okN F sc_book_of (fun vs H Q E h => ?_) (fun cdv A outer s H vs Q E hr h => ?_)
  · obtain ⟨_, _, rfl, _⟩ := h
    rfl
  obtain ⟨a, rows, rfl, ⟨xs, hx, hp, _⟩, h0, hl, hQ⟩ := h
  have hu := hu_of hr
  have hxl : xs.length = rows.length := Paired.length hp
  refine ⟨_, pss_cons (ps_set (i := 1) sc_book_of.nd rfl (.inl rfl) pe_dnewK)
    (pss_cons (ps_for PassesOwn.never rfl (pi_range2 rfl B.range (pa_cons pe_int (pa_cons (pe_callB call_len_seq (by rfl) B.len (by decide +kernel) (pa_cons (pv 0) pa_nil)) pa_nil))) (pg_name (i := 2) sc_book_of.nd rfl (Or.inl rfl))
     (C8.pss_cut (ps_if (pt_cmpR op_gt (pe_ix ix_list (pe_ix ix_list (pv 0) (pv 2) (fun _ _ => rfl)) pe_int (fun _ _ => rfl)) pe_int (nomark _))
      (pss_one (ps_dput hu (pv 1) (pe_op op_mul pe_int (pv 2)) (pe_ix ix_list (pe_ix ix_list (pv 0) (pv 2) (fun _ _ => rfl)) pe_int (fun _ _ => rfl)) rfl))
      pss_nil)
     (pss_one (ps_if (pt_cmpR op_gt (pe_ix ix_list (pe_ix ix_list (pv 0) (pv 2) (fun _ _ => rfl)) pe_int (fun _ _ => rfl)) pe_int (nomark _))
      (pss_one (ps_dput hu (pv 1) (pe_op op_add (pe_op op_mul pe_int (pv 2)) pe_int) (pe_ix ix_list (pe_ix ix_list (pv 0) (pv 2) (fun _ _ => rfl)) pe_int (fun _ _ => rfl)) rfl))
      pss_nil))))
    (pss_one (ps_ret (pv 1)))), ?_⟩
  intro D nD
  have sD := same_upd (o := .dK []) nD
  refine ⟨_, rfl, a, xs, rfl, .inl (SqL.of (sD _ _ hx)), _, _, rfl, ⟨by decide, by decide, by omega, by omega⟩, ?_⟩
  rw [hxl, show ((rows.length : Int) - 1).toNat = rows.length - 1 from by omega]
  refine for_it walk_range (fun i σ H' => (∃ u, σ = [some (.ref a), some (.ref D), u]) ∧ Bk H' D (bookTo rows i) ∧ Same H H') ⟨⟨_, rfl⟩, upd_same, sD⟩ (fun _ _ _ _ _ => True.intro) ?_ ?_
  · rintro i x σ H1 H2 hi ⟨⟨u, rfl⟩, hb, hs⟩ ⟨rfl, rfl⟩
    obtain ⟨t, hat, ht⟩ := st_row hp (i := 1 + i) (by omega)
    have hat' : atI xs (1 + (i : Int)) = some (.ref t) := by
      rw [show (1 + (i : Int)) = ((1 + i : Nat) : Int) from by omega]
      exact hat
    have bl := bookTo_len rows i
    generalize hr1 : row rows (1 + i) = r at ht
    have key1 : (2 * (1 + (i : Int))) = 2 * ((1 + i : Nat) : Int) := by omega
    refine ⟨fun σ' H' => σ' = [some (.ref a), some (.ref D), some (.int (1 + (i : Int)))] ∧ Bk H' D (bookTo rows i ++ (if 0 < r.1 then [(2 * ((1 + i : Nat) : Int), r.1)] else [])) ∧ Same H H', ?_, ?_⟩
    · refine ⟨_, rfl, _, rfl, a, xs, _, _, rfl, rfl, SqL.of (hs _ _ hx), hat', t, _, _, _, rfl, rfl, SqL.of (hs _ _ ht), at2_0 r, _, _, rfl, rfl, _, rfl, ?_⟩
      refine ite2 (fun c => ?_) (fun c => ?_)
      · have c' : 0 < r.1 := of_decide_eq_true c
        refine ⟨_, rfl, _, rfl, a, xs, _, _, rfl, rfl, SqL.of (hs _ _ hx), hat', t, _, _, _, rfl, rfl, SqL.of (hs _ _ ht), at2_0 r, ?_⟩
        refine ⟨_, rfl, _, rfl, _, _, rfl, rfl, .inl ⟨by decide, by decide⟩, D, _, rfl, DPut.k (k := .inl (2 * (1 + (i : Int)))) hb (szl (by rw [kvI_len]; omega)), rfl, ?_, same_put hs nD⟩
        rw [Bk, upd_same, putK_kvI (by rw [key1]; exact bookTo_new (Int.le_refl _)), if_pos c', key1]
      · have c' : ¬ 0 < r.1 := fun h => c (decide_eq_true h)
        refine ⟨rfl, ?_, hs⟩
        rw [if_neg c', List.append_nil]
        exact hb
    · rintro σ' H' ⟨rfl, hb', hs'⟩
      have e := bookTo_succ rows i
      rw [hr1] at e
      unfold bkE at e
      rw [← List.append_assoc] at e
      refine ⟨_, rfl, _, rfl, a, xs, _, _, rfl, rfl, SqL.of (hs' _ _ hx), hat', t, _, _, _, rfl, rfl, SqL.of (hs' _ _ ht), at2_1 r, _, _, rfl, rfl, _, rfl, ?_⟩
      refine ite2 (fun c => ?_) (fun c => ?_)
      · have c' : 0 < r.2 := of_decide_eq_true c
        rw [if_pos c'] at e
        refine ⟨_, rfl, _, rfl, a, xs, _, _, rfl, rfl, SqL.of (hs' _ _ hx), hat', t, _, _, _, rfl, rfl, SqL.of (hs' _ _ ht), at2_1 r, ?_⟩
        refine ⟨_, rfl, _, rfl, _, _, rfl, rfl, .inl ⟨by decide, by decide⟩, _, _, rfl, rfl, D, _, rfl, DPut.k (k := .inl (2 * (1 + (i : Int)) + 1)) hb' (szl ?_), ⟨_, rfl⟩, ?_, same_put hs' nD⟩
        · rw [kvI_len, List.length_append]
          split <;> simp <;> omega
        · rw [Bk, upd_same, putK_kvI, e, key1]
          rw [get_append, bookTo_new (by omega)]
          split
          · rw [Option.none_or]
            simp only [get]
            rw [if_neg (by omega)]
          · rfl
      · have c' : ¬ 0 < r.2 := fun h => c (decide_eq_true h)
        rw [if_neg c', List.append_nil] at e
        exact ⟨⟨_, rfl⟩, by rw [e]; exact hb', hs'⟩
  · rintro σ H1 ⟨⟨u, rfl⟩, hb, hs⟩
    exact ⟨_, rfl, hQ D _ hs nD hb⟩
/-! ### _law_arranged -/
def sp_arranged (K : PySem.W.Frag) : Sp := fun vs H Q _ => ∃ (a : Addr) (rows : Std), vs = [.ref a] ∧ St H a rows ∧ 0 < rows.length ∧ rows.length ≤ 100 ∧ Inj rows ∧ ∀ p H', Same H H' → H p = none → Ar H' p (arrD rows) → Q (.ref p) H'
theorem ok_arranged (F : FnP K "_law_arranged" "_law_arranged" s_arranged f fd) (B : BT mg) : FnOk P w K mg base CX0 1 f fd ["_law_stand"] (sp_arranged K) := by
  refine okN F sc_arranged (fun vs H Q E h => ?_) (fun cdv A outer s H vs Q E hr h => ?_)
  · obtain ⟨_, _, rfl, _⟩ := h
    rfl
  obtain ⟨a, rows, rfl, ⟨xs, hx, hp, _⟩, h0, hl, hinj, hQ⟩ := h
  have hu := hu_of hr
  have hxl : xs.length = rows.length := Paired.length hp
  refine ⟨_, pss_cons (ps_set (i := 1) sc_arranged.nd rfl (.inl rfl) pe_dnewK)
    (pss_cons (ps_for PassesOwn.never rfl (pi_range3 rfl B.range (pa_cons (pe_op op_sub (pe_callB call_len_seq (by rfl) B.len (by decide +kernel) (pa_cons (pv 0) pa_nil)) pe_int) (pa_cons pe_int (pa_cons (pe_un un_neg pe_int) pa_nil)))) (pg_name (i := 2) sc_arranged.nd rfl (Or.inl rfl))
     (pss_one (ps_if (pt_cmpR op_gt (pe_ix ix_list (pe_ix ix_list (pv 0) (pv 2) (fun _ _ => rfl)) pe_int (fun _ _ => rfl)) pe_int (nomark _))
      (pss_one (ps_dput hu (pv 1) (pe_ix ix_list (pe_ix ix_list (pv 0) (pv 2) (fun _ _ => rfl)) pe_int (fun _ _ => rfl)) (pe_tup (pa_cons (pv 2) (pa_cons (pe_ix ix_list (pe_ix ix_list (pv 0) (pv 2) (fun _ _ => rfl)) pe_int (fun _ _ => rfl)) pa_nil))) rfl))
      pss_nil)))
    (pss_one (ps_ret (pv 1)))), ?_⟩
  intro D nD
  have sD := same_upd (o := .dK []) nD
  refine ⟨_, rfl, a, xs, rfl, .inl (SqL.of (sD _ _ hx)), _, _, rfl, rfl, _, rfl, _, _, -1, rows.length - 1, rfl, ?_, ?_⟩
  · have z := RgC.neg (i := (xs.length : Int) - 1) (j := 0) (by omega) (by omega) (by omega) (by omega)
    rw [show ((xs.length : Int) - 1 - 0).toNat = rows.length - 1 from by omega] at z
    exact z
  refine for_it walk_rangeC (fun i σ H' => (∃ u, σ = [some (.ref a), some (.ref D), u]) ∧ Ar H' D (arrTo rows i) ∧ Same H H') ⟨⟨_, rfl⟩, ⟨_, upd_same, .nil⟩, sD⟩ (fun _ _ _ _ _ => True.intro) ?_ ?_
  · rintro i x σ H1 H2 hi ⟨⟨u, rfl⟩, ⟨ks, hk, hkp⟩, hs⟩ ⟨rfl, rfl⟩
    obtain ⟨t, hat, ht⟩ := st_row hp (i := rows.length - 1 - i) (by omega)
    have ei : ((xs.length : Int) - 1 + (i : Nat) * (-1)) = ((rows.length - 1 - i : Nat) : Int) := by omega
    have e := arrTo_succ rows i
    have al := arrTo_len rows i
    generalize hr1 : row rows (rows.length - 1 - i) = r at ht e
    refine ⟨_, rfl, _, rfl, a, xs, _, _, rfl, rfl, SqL.of (hs _ _ hx), (by rw [ei]; exact hat), t, _, _, _, rfl, rfl, SqL.of (hs _ _ ht), at2_0 r, _, _, rfl, rfl, _, rfl, ?_⟩
    refine ite2 (fun c => ?_) (fun c => ?_)
    · have c' : 0 < r.1 := of_decide_eq_true c
      have ee : arE (rows.length - 1 - i) r = some (r.1, (((rows.length - 1 - i : Nat) : Int), r.2)) := if_pos c'
      rw [ee] at e
      refine ⟨_, rfl, _, rfl, _, rfl, a, xs, _, _, rfl, rfl, SqL.of (hs _ _ hx), (by rw [ei]; exact hat), t, _, _, _, rfl, rfl, SqL.of (hs _ _ ht), at2_1 r, szr, fun q nq => ?_⟩
      have s2 := same_upd (o := .tup [V.int ((xs.length : Int) - 1 + (i : Nat) * (-1)), V.int r.2]) nq
      have s3 := hs.trans s2
      have gn : get (arrTo rows i) r.1 = none := by
        rw [get_none]
        intro m
        obtain ⟨e1, he1, e2⟩ := List.mem_map.mp m
        obtain ⟨j, hj, hpos, e3⟩ := mem_arrTo he1
        rw [e3] at e2
        have := hinj (rows.length - 1 - j) (rows.length - 1 - i) hpos (by rw [hr1]; exact e2)
        omega
      refine ⟨_, rfl, _, rfl, _, rfl, a, xs, _, _, rfl, rfl, SqL.of (s3 _ _ hx), (by rw [ei]; exact hat), t, _, _, _, rfl, rfl, SqL.of (s3 _ _ ht), at2_0 r, D, _, rfl, DPut.k (k := .inl r.1) (s2 _ _ hk) (szl (by rw [Paired.length hkp]; omega)), ⟨_, rfl⟩, ?_, same_put s3 nD⟩
      rw [e]
      refine Ar.add (s2 _ _ hk) (paired_mono (fun _ _ r => r.same s2) hkp) gn ?_
      rw [upd_same]
      show some (HO.tup [V.int ((xs.length : Int) - 1 + (i : Nat) * (-1)), V.int r.2]) = _
      rw [ei]
    · have c' : ¬ 0 < r.1 := fun h => c (decide_eq_true h)
      have ee : arE (rows.length - 1 - i) r = none := if_neg c'
      rw [ee] at e
      simp only [Option.toList_none, List.append_nil] at e
      exact ⟨⟨_, rfl⟩, by rw [e]; exact ⟨ks, hk, hkp⟩, hs⟩
  · rintro σ H1 ⟨⟨u, rfl⟩, hb, hs⟩
    exact ⟨_, rfl, hQ D _ hs nD hb⟩
end
end K80
end
section
set_option maxHeartbeats 4000000
namespace K80
open PySem PySem.Spec PyProof.Rows L2 Inf
def posL (rows : Std) : List Int := (rows.map (·.1)).filter fun k => decide (0 < k)
def offL (rows : Std) : Std := rows.filter fun r => decide (decide (0 < r.1) ≠ decide (0 < r.2))
def brk (rows : Std) : Str := if ¬ (posL rows).Nodup then "apart" else if offL rows ≠ [] then "whole" else ""
theorem nodup_of_prefix {l : List Int} (h : ∀ i x, l[i]? = some x → x ∉ l.take i) : l.Nodup := by
  rw [List.nodup_iff_pairwise_ne] at *
  rw [List.pairwise_iff_getElem]
  intro i j hi hj hij e
  have := h j l[j] (by simp [hj])
  apply this
  rw [← e]
  rw [List.mem_take_iff_getElem]
  exact ⟨i, by omega, rfl⟩
theorem inV_int {x : Int} {l : List Int} : inV (V.int x) (l.map V.int) = decide (x ∈ l) := by
  rw [Bool.eq_iff_iff]
  unfold inV
  rw [List.any_eq_true]
  simp only [List.mem_map, decide_eq_true_eq]
  constructor
  · rintro ⟨_, ⟨z, hz, rfl⟩, e⟩
    have : (z == x) = true := e
    rw [beq_iff_eq] at this
    exact this ▸ hz
  · intro h
    exact ⟨_, ⟨x, h, rfl⟩, by show (x == x) = true; simp⟩
section
variable {P : Program} {w : World} {K : PySem.W.Frag} {mg : Str → Option Value} {base : Heap} {f : Addr} {fd : FuncData}
/-! ### _law_broken -/
def sp_broken (K : PySem.W.Frag) : Sp := fun vs H Q _ => ∃ (a : Addr) (rows : Std), vs = [.ref a] ∧ St H a rows ∧ rows.length ≤ 100 ∧ ∀ H', Same H H' → Q (.str (brk rows)) H'
theorem ok_broken (F : FnP K "_law_broken" "_law_broken" s_broken f fd) (B : BT mg) : FnOk P w K mg base CX0 1 f fd ["_law_stand"] (sp_broken K) := by
  refine okN F sc_broken (fun vs H Q E h => ?_) (fun cdv A outer s H vs Q E hr h => ?_)
  · obtain ⟨_, _, rfl, _⟩ := h
    rfl
  obtain ⟨a, rows, rfl, ⟨xs, hx, hp, _⟩, hl, hQ⟩ := h
  have hxl : xs.length = rows.length := Paired.length hp
  refine ⟨_, pss_cons (ps_setLc (i := 1) (own := [("_law_row", 3)]) (g := gName 3) rfl sc_broken.nd rfl rfl (sw_true rfl rfl rfl (by decide +kernel)) (pi_list (pv 0)) (blkOk_by (own := [("_law_row", 3)]) (N := ["_law_stand", "_law_positions", "_law_k", "_law_row"]) (sc := defScope s_broken) (by decide +kernel)) (fun _ _ _ _ _ => (pg_name (i := 3) sc_broken.nd rfl (Or.inl rfl))) (fun _ _ _ _ _ => (pts_one (pt_cmpR op_gt (pe_ix (ixList K) (pv 3) pe_int (fun _ _ => rfl)) pe_int (nomark _)))) (fun _ _ _ _ _ => (pe_ix (ixList K) (pv 3) pe_int (fun _ _ => rfl))))
    (pss_cons (ps_for PassesOwn.never rfl (pi_range1 rfl B.range (pa_cons (pe_callB call_len_seq (by rfl) B.len (by decide +kernel) (pa_cons (pv 1) pa_nil)) pa_nil)) (pg_name (i := 2) sc_broken.nd rfl (Or.inl rfl))
     (pss_one (ps_if (pt_cmpR op_in_seq (pe_ix ix_list (pv 1) (pv 2) (fun _ _ => rfl)) (pe_slice sl_list (pv 1) po_none (po_some (pv 2))) (by rfl))
      (pss_one (ps_ret pe_str))
      pss_nil)))
    (pss_cons (ps_if (pt_cmpR op_gt (pe_callB call_len_seq (by rfl) B.len (by decide +kernel) (pa_cons (pe_lc (own := [("_law_row", 3)]) (g := gName 3) rfl sc_broken.nd (pi_list (pv 0)) (blkOk_by (own := [("_law_row", 3)]) (N := ["_law_stand", "_law_positions", "_law_k", "_law_row"]) (sc := defScope s_broken) (by decide +kernel)) (fun _ _ _ _ _ => (pg_name (i := 3) sc_broken.nd rfl (Or.inl rfl))) (fun _ _ _ _ _ => (pts_one (pt_cmpR op_ne (pe_cmpR op_gt (pe_ix (ixList K) (pv 3) pe_int (fun _ _ => rfl)) pe_int (nomark _)) (pe_cmpR op_gt (pe_ix (ixList K) (pv 3) pe_int (fun _ _ => rfl)) pe_int (nomark _)) (nomark _)))) (fun _ _ _ _ _ => (pv 3))) pa_nil)) pe_int (nomark _))
     (pss_one (ps_ret pe_str))
     pss_nil)
    (pss_one (ps_ret pe_str)))), ?_⟩
  refine ⟨_, rfl, a, rfl, ⟨_, SqL.of hx⟩, fun D nD => ?_⟩
  refine lc_it (walk_list (xs := xs)) (fun i H' => Ls H' D (posL (rows.take i)) ∧ Same H H') ⟨upd_same, same_upd nD⟩ (fun i H' _ p => p.2.seq (SqL.of hx)) ?_ ?_
  · rintro i x H1 H2 hi ⟨h1, hs⟩ ⟨rfl, hk⟩
    obtain ⟨r, hr1, t, rfl, ht⟩ := paired_at hp hk
    have ht2 := hs _ _ ht
    have ts : posL (rows.take (i + 1)) = posL (rows.take i) ++ (if 0 < r.1 then [r.1] else []) := by
      unfold posL
      rw [take_snoc hr1, List.map_append, List.filter_append]
      congr 1
      by_cases c : 0 < r.1 <;> simp [c]
    have pl : (posL (rows.take i)).length ≤ 100 := by
      have := List.length_filter_le (fun k => decide (0 < k)) ((rows.take i).map (·.1))
      unfold posL
      simp at this ⊢
      omega
    refine ⟨rfl, ?_⟩
    refine ⟨_, rfl, t, _, _, _, rfl, rfl, SqL.of ht2, at2_0 r, _, _, rfl, rfl, _, rfl, ?_⟩
    refine ite2 (fun c => ?_) (fun c => ?_)
    · have c' : 0 < r.1 := of_decide_eq_true c
      rw [if_pos c'] at ts
      refine ⟨_, rfl, t, _, _, _, rfl, rfl, SqL.of ht2, at2_0 r, _, h1, szl (by rw [List.length_map]; omega), ?_, same_put hs nD⟩
      rw [ts, Ls, upd_same, List.map_append]
      rfl
    · have c' : ¬ 0 < r.1 := fun h => c (decide_eq_true h)
      rw [if_neg c', List.append_nil] at ts
      exact ⟨by rw [ts]; exact h1, hs⟩
  · rintro H1 ⟨h1, hs⟩
    rw [hxl, List.take_length] at h1
    have pl : (posL rows).length ≤ 100 := by
      have := List.length_filter_le (fun k => decide (0 < k)) (rows.map (·.1))
      unfold posL
      simp at this ⊢
      omega
    refine ⟨_, rfl, D, _, rfl, .inl h1.sq, _, rfl, by omega, by rw [List.length_map]; omega, ?_⟩
    rw [List.length_map, show ((posL rows).length : Int).toNat = (posL rows).length from by omega]
    refine for_it walk_range (fun i σ H' => (∃ u, σ = [some (.ref a), some (.ref D), u, none]) ∧ Same H1 H' ∧ ∀ j x, j < i → (posL rows)[j]? = some x → x ∉ (posL rows).take j) ⟨⟨_, rfl⟩, Same.refl _, fun j x h => absurd h (Nat.not_lt_zero j)⟩ (fun _ _ _ _ _ => True.intro) ?_ ?_
    · rintro i x σ H2 H3 hi ⟨⟨u, rfl⟩, h2, hno⟩ ⟨rfl, rfl⟩
      obtain ⟨z, hz⟩ : ∃ z, (posL rows)[i]? = some z := ⟨(posL rows)[i], by simp [hi]⟩
      have hD := h2 _ _ h1
      refine ⟨_, rfl, _, rfl, D, _, _, _, rfl, rfl, SqL.of hD, (by rw [show ((0 : Int) + (i : Nat)) = ((i : Nat) : Int) from by omega]; exact atI_nat (v := .int z) (by rw [List.getElem?_map, hz]; rfl)), ?_⟩
      refine ⟨_, rfl, _, rfl, _, rfl, D, _, rfl, SqL.of hD, fun p np => ?_⟩
      have s3 := h2.trans (same_upd (o := .lst (cutV ((posL rows).map V.int) none (some (0 + (i : Int))))) np)
      have ec : cutV ((posL rows).map V.int) none (some (0 + (i : Int))) = ((posL rows).take i).map V.int := by
        rw [show (0 + (i : Int)) = ((i : Nat) : Int) from by omega, cut_to, List.map_take]
      rw [ec] at s3 ⊢
      refine ⟨p, _, rfl, .inl (SqL.of upd_same), rfl, all_flat _, _, rfl, ?_⟩
      show if inV (V.int z) (((posL rows).take i).map V.int) = true then _ else _
      rw [inV_int]
      refine ite2 (fun c => ?_) (fun c => ?_)
      · have c' := of_decide_eq_true c
        have e : brk rows = ("apart" : Str) := if_pos (fun nd => by
          rw [List.nodup_iff_pairwise_ne, List.pairwise_iff_getElem] at nd
          obtain ⟨j, hj, e⟩ := List.mem_take_iff_getElem.mp c'
          have := nd j i (by omega) hi (by omega)
          rw [e] at this
          obtain ⟨_, e2⟩ := List.getElem?_eq_some_iff.mp hz
          exact this e2.symm)
        have := hQ _ (hs.trans s3)
        rw [e] at this
        exact this
      · have c' : z ∉ (posL rows).take i := fun h => c (decide_eq_true h)
        refine ⟨⟨_, rfl⟩, s3, fun j x hj hx => ?_⟩
        by_cases e : j = i
        · subst e
          rw [hz] at hx
          cases hx
          exact c'
        · exact hno j x (by omega) hx
    · rintro σ H2 ⟨⟨u, rfl⟩, h2, hno⟩
      have nd : (posL rows).Nodup := nodup_of_prefix fun i x h => hno i x (List.getElem?_eq_some_iff.mp h).1 h
      have s2 := hs.trans h2
      refine ⟨_, rfl, a, rfl, ⟨_, SqL.of (s2 _ _ hx)⟩, fun Z nZ => ?_⟩
      refine lc_it (walk_list (xs := xs)) (fun i H' => (∃ zs, H' Z = some (.lst zs) ∧ zs.length = (offL (rows.take i)).length) ∧ Same H2 H') ⟨⟨_, upd_same, rfl⟩, same_upd nZ⟩ (fun i H' _ p => p.2.seq (SqL.of (s2 _ _ hx))) ?_ ?_
      · rintro i x H3 H4 hi ⟨⟨zs, hz, hzl⟩, h3⟩ ⟨rfl, hk⟩
        obtain ⟨r, hr1, t, rfl, ht⟩ := paired_at hp hk
        have ht2 := h3 _ _ (s2 _ _ ht)
        have ts : offL (rows.take (i + 1)) = offL (rows.take i) ++ (if decide (0 < r.1) ≠ decide (0 < r.2) then [r] else []) := by
          unfold offL
          rw [take_snoc hr1, List.filter_append]
          congr 1
          by_cases c : decide (0 < r.1) ≠ decide (0 < r.2)
          · rw [if_pos c]
            simp only [List.filter_cons, List.filter_nil]
            rw [decide_eq_true c]
            rfl
          · rw [if_neg c]
            simp only [List.filter_cons, List.filter_nil]
            rw [decide_eq_false c]
            rfl
        have zl : zs.length ≤ 100 := by
          have := List.length_filter_le (fun r : Int × Int => decide (decide (0 < r.1) ≠ decide (0 < r.2))) (rows.take i)
          unfold offL at hzl
          simp only [List.length_take] at this
          omega
        refine ⟨rfl, ?_⟩
        refine ⟨_, rfl, t, _, _, _, rfl, rfl, SqL.of ht2, at2_0 r, _, _, rfl, rfl, ?_⟩
        refine ⟨_, rfl, t, _, _, _, rfl, rfl, SqL.of ht2, at2_1 r, _, _, rfl, rfl, rfl, _, rfl, ?_⟩
        have eb : decide (V.bl (decide ((0 : Int) < r.1)) = V.bl (decide ((0 : Int) < r.2))) = decide (decide (0 < r.1) = decide (0 < r.2)) := by
          rw [Bool.eq_iff_iff]
          simp
        rw [eb]
        refine ite2 (fun c => ?_) (fun c => ?_)
        · have c' : decide (0 < r.1) ≠ decide (0 < r.2) := fun h => by rw [decide_eq_true h] at c; cases c
          rw [if_pos c'] at ts
          refine ⟨_, rfl, zs, hz, szl (by omega), ⟨_, upd_same, ?_⟩, same_put h3 nZ⟩
          rw [ts, List.length_append, List.length_append, hzl]
          rfl
        · have c' : ¬ decide (0 < r.1) ≠ decide (0 < r.2) := fun h => c (by rw [decide_eq_false h]; rfl)
          rw [if_neg c', List.append_nil] at ts
          exact ⟨⟨zs, hz, by rw [ts]; exact hzl⟩, h3⟩
      · rintro H3 ⟨⟨zs, hz, hzl⟩, h3⟩
        rw [hxl, List.take_length] at hzl
        refine ⟨Z, zs, rfl, .inl (SqL.of hz), _, _, rfl, rfl, _, rfl, ?_⟩
        have hq := hQ _ (s2.trans h3)
        refine ite2 (fun c => ?_) (fun c => ?_)
        · have c' : offL rows ≠ [] := fun e => by
            rw [e] at hzl
            have := of_decide_eq_true c
            rw [hzl] at this
            simp at this
          have e : brk rows = ("whole" : Str) := by
            unfold brk
            rw [if_neg (fun h => h nd), if_pos c']
          rw [e] at hq
          exact hq
        · have c' : offL rows = [] := by
            rw [← List.length_eq_zero_iff, ← hzl]
            rcases Nat.eq_zero_or_pos zs.length with h | h
            · exact h
            · exact absurd (decide_eq_true (by omega)) c
          have e : brk rows = ("" : Str) := by
            unfold brk
            rw [if_neg (fun h => h nd), if_neg (fun h => h c')]
          rw [e] at hq
          exact hq
end
end K80
end
section
set_option maxHeartbeats 4000000
namespace K80
open PySem PySem.Spec PyProof.Rows L2 Inf
theorem Box.same {b : Addr} {H H' : Hp} (h : Box H b) (e : Same H H') : Box H' b := let ⟨m, c, k, z⟩ := h; ⟨m, c, k, e _ _ z⟩
/-- a list of whole numbers of another length than three, or with other things, is not the box -/
theorem Box.ne {b a : Addr} {H : Hp} (h : Box H b) {o : HO} (ha : H a = some o) (n : ∀ m c k : Int, o ≠ .lst [.int m, .int c, .int k]) : a ≠ b := fun e => by
  obtain ⟨m, c, k, z⟩ := h
  rw [e, z] at ha
  exact n m c k (Option.some.inj ha).symm
section
variable {P : Program} {w : World} {K : PySem.W.Frag} {mg : Str → Option Value} {base : Heap} {f : Addr} {fd : FuncData}
/-! ### _law_is_arrangement -/
def sp_is_arrangement : Sp := fun vs H Q _ => ∃ (a : Addr) (l : Arr), vs = [.ref a] ∧ Ar H a l ∧ (l.map (·.1)).Nodup ∧ ∀ H', Same H H' → Q (.bl true) H'
theorem ok_is_arrangement (F : FnP K "_law_is_arrangement" "_law_is_arrangement" s_is_arrangement f fd) (B : BT mg) (G_ints : Has P w K mg base CX0 1 "_law_ints" sp_ints) : FnOk P w K mg base CX0 2 f fd ["_law_told"] sp_is_arrangement := by
  refine okN F sc_is_arrangement (fun vs H Q E h => ?_) (fun cdv A outer s H vs Q E hr h => ?_)
  · obtain ⟨_, _, rfl, _⟩ := h
    rfl
  obtain ⟨a, l, rfl, ⟨ks, hk, hp⟩, nd, hQ⟩ := h
  have hu := hu_of hr
  refine ⟨_, pss_cons (ps_if (pt_not (pt_val (pe_callB call_isi (by rfl) B.isinstance (by decide +kernel) (pa_cons (pv 0) (pa_cons (pe_bltn (v := .ty "dict") (u := .type "dict") (by rfl) B.dict (by decide +kernel) rfl) pa_nil)))))
     (pss_one (ps_ret pe_bl))
     pss_nil)
    (pss_cons (ps_lock (ps_for PassesOwn.never rfl (pi_keys (pv 0)) (pg_name (i := 1) sc_is_arrangement.nd rfl (Or.inl rfl))
     (pss_cons (ps_set (i := 2) sc_is_arrangement.nd rfl (.inl rfl) (pe_dget hu (pv 0) (pv 1) (fun _ _ => rfl)))
     (pss_one (ps_if (PW.pt (pw_or (pt_not (pt_val (pe_callB call_isi (by rfl) B.isinstance (by decide +kernel) (pa_cons (pv 2) (pa_cons (pe_bltn (v := .ty "tuple") (u := .type "tuple") (by rfl) B.tuple (by decide +kernel) rfl) pa_nil))))) (pw_or (pt_cmpR op_ne (pe_callB call_len_seq (by rfl) B.len (by decide +kernel) (pa_cons (pv 2) pa_nil)) pe_int (nomark _)) (pw_or1 (pt_not (pt_val (pe_c G_ints hr (pa_cons (pe_op op_cat (pe_lst (pa_cons (pv 1) pa_nil)) (pe_callTy call_list_of (by rfl) B.list (by decide +kernel) (pa_cons (pv 2) pa_nil))) pa_nil))))))))
      (pss_one (ps_ret pe_bl))
      pss_nil)))))
    (pss_one (ps_ret pe_bl))), ?_⟩
  refine ⟨_, rfl, _, _, _, _, true, rfl, .ty "dict", .base (.dK hk), kitD K, true, rfl, iteF ?_⟩
  refine ⟨a, _, hk, True.intro, fun od => ?_⟩
  refine ⟨_, rfl, a, od, rfl, .inl ⟨_, upd_same, ?_⟩⟩
  refine for_it walk_keys (fun i σ H' => (∃ u v, σ = [some (.ref a), u, v]) ∧ Same (upd H a (.frz od (.dK ks))) H') ⟨⟨_, _, rfl⟩, Same.refl _⟩ (fun i σ H' _ p => p.2 _ _ upd_same) ?_ ?_
  · rintro i x σ H1 H2 hi ⟨⟨u, v, rfl⟩, hs⟩ ⟨rfl, k, y, hk2, rfl⟩
    obtain ⟨e, he, r1, t, rt, ht⟩ := paired_at hp hk2
    have r1' : k = Sum.inl e.1 := r1
    subst r1'
    have z := ent_val hp e.1
    rw [get_of_mem nd (List.mem_of_getElem? he)] at z
    obtain ⟨t', e1, ht'⟩ := entO_some z
    have ht2 : H2 t' = some (.tup [.int e.2.1, .int e.2.2]) := hs _ _ (by rw [upd_ne (fun z => by subst z; rw [hk] at ht'; cases ht')]; exact ht')
    have hg : DGet H2 a (.int e.1) (some (.ref t')) := .inl ⟨ks, .inl e.1, .inr ⟨od, hs _ _ upd_same⟩, rfl, e1.symm⟩
    refine ⟨_, rfl, _, rfl, a, _, rfl, hg, ?_⟩
    refine ⟨_, rfl, _, _, _, _, true, rfl, .ty "tuple", .base (.tup ht2), kitT K, true, rfl, iteF ?_⟩
    refine ⟨_, rfl, t', _, rfl, .inr (SqT.of ht2), rfl, _, rfl, iteF ?_⟩
    refine ⟨_, rfl, szr, fun p np => ?_⟩
    have s1 := same_upd (o := .lst [V.int e.1]) np
    refine ⟨_, rfl, t', _, rfl, .inr (SqT.of (s1 _ _ ht2)), fun q nq => ?_⟩
    have s2 := same_upd (o := .lst [V.int e.2.1, V.int e.2.2]) nq
    have nqp : q ≠ p := fun e => by rw [e, upd_same] at nq; cases nq
    refine ⟨p, q, _, _, rfl, rfl, s2 _ _ upd_same, upd_same, szr, fun r nr => ?_⟩
    have s3 := same_upd (o := .lst ([V.int e.1] ++ [V.int e.2.1, V.int e.2.2])) nr
    exact ⟨r, [e.1, e.2.1, e.2.2], rfl, upd_same, true, rfl, iteF ⟨⟨_, _, rfl⟩, hs.trans ((s1.trans s2).trans s3)⟩⟩
  · rintro σ H1 ⟨⟨u, v, rfl⟩, hs⟩
    exact ⟨hs _ _ upd_same, hQ _ (same_unlock hk hs)⟩
/-! ### _law_choose -/
def sp_choose (K : PySem.W.Frag) : Sp := fun vs H Q _ => ∃ (b a : Addr) (ns : List Int) (n : Nat), vs = [.ref b, .ref a, .int n] ∧ Box H b ∧ Ls H a ns ∧ a ≠ b ∧ ns.length ≤ 100 ∧ n ≤ ns.length ∧
  ∀ p H' cs, SameBut b H H' → Box H' b → H p = none → Ls H' p cs → cs.length = n → (∀ x ∈ cs, x ∈ ns) → Q (.ref p) H'
theorem ok_choose (F : FnP K "_law_choose" "_law_choose" s_choose f fd) (B : BT mg) (G_take : Has P w K mg base CX0 1 "_law_take" sp_take) : FnOk P w K mg base CX0 2 f fd ["_law_box", "_law_rows", "_law_count"] (sp_choose K) := by
  refine okN F sc_choose (fun vs H Q E h => ?_) (fun cdv A outer s H vs Q E hr h => ?_)
  · obtain ⟨_, _, _, _, rfl, _⟩ := h
    rfl
  obtain ⟨b, a, ns, n, rfl, hb, hL, nab, hl, hn, hQ⟩ := h
  refine ⟨_, pss_cons (ps_set (i := 3) sc_choose.nd rfl (.inl rfl) (pe_callTy call_list_of (by rfl) B.list (by decide +kernel) (pa_cons (pv 1) pa_nil)))
    (pss_cons (ps_set (i := 4) sc_choose.nd rfl (.inl rfl) (pe_lst pa_nil))
    (pss_cons (ps_for PassesOwn.never rfl (pi_range1 rfl B.range (pa_cons (pe_callB (call_min2 rfl) (by rfl) B.min (by decide +kernel) (pa_cons (pv 2) (pa_cons (pe_callB call_len_seq (by rfl) B.len (by decide +kernel) (pa_cons (pv 1) pa_nil)) pa_nil))) pa_nil)) (pg_name (i := 5) sc_choose.nd rfl (Or.inl rfl))
     (pss_cons (ps_set (i := 6) sc_choose.nd rfl (.inl rfl) (pe_c G_take hr (pa_cons (pv 0) (pa_cons (pe_callB call_len_seq (by rfl) B.len (by decide +kernel) (pa_cons (pv 3) pa_nil)) pa_nil))))
     (pss_cons (ps_expr (pe_bm PySem.F.plainAttrs_list PySem.F.slot_list_append PySem.F.type_list_append mt_append (pv 4) (pa_cons (pe_ix ix_list (pv 3) (pv 6) (fun _ _ => rfl)) pa_nil)))
     (pss_one (ps_set (i := 3) sc_choose.nd rfl (.inl rfl) (pe_op op_cat (pe_slice sl_list (pv 3) po_none (po_some (pv 6))) (pe_slice sl_list (pv 3) (po_some (pe_op op_add (pv 6) pe_int)) po_none)))))))
    (pss_one (ps_ret (pv 4))))), ?_⟩
  refine ⟨_, rfl, a, _, rfl, .inl hL.sq, fun r nr => ?_⟩
  have s1 := same_upd (o := .lst (ns.map V.int)) nr
  refine ⟨szr, fun Z nZ => ?_⟩
  have s2 := same_upd (o := .lst []) nZ
  have nZr : Z ≠ r := fun e => by rw [e, upd_same] at nZ; cases nZ
  have nZ0 : H Z = none := s1.free nZ
  have nZb : Z ≠ b := fun e => by obtain ⟨m, c, k, z⟩ := hb; rw [e, z] at nZ0; cases nZ0
  have nrb : r ≠ b := fun e => by obtain ⟨m, c, k, z⟩ := hb; rw [e, z] at nr; cases nr
  have hr0 : Ls (upd (upd H r (.lst (ns.map V.int))) Z (.lst [])) r ns := by rw [Ls, upd_ne nZr.symm]; exact upd_same
  have s12 := s1.trans s2
  refine ⟨_, rfl, _, rfl, a, _, rfl, .inl (SqL.of (s12 _ _ hL)), _, _, rfl, _, rfl, ?_, ?_, ?_⟩
  · rw [List.length_map]; split <;> omega
  · rw [List.length_map]; split <;> omega
  have em : (if ((List.map V.int ns).length : Int) < (n : Int) then ((List.map V.int ns).length : Int) else (n : Int)).toNat = n := by
    rw [List.length_map, if_neg (by omega)]
    omega
  rw [em]
  refine for_it walk_range (fun i σ H' => (∃ r rs u v, σ = [some (.ref b), some (.ref a), some (.int n), some (.ref r), some (.ref Z), u, v] ∧ Ls H' r rs ∧ rs.length + i = ns.length ∧ (∀ x ∈ rs, x ∈ ns) ∧ r ≠ Z ∧ r ≠ b) ∧ (∃ cs, Ls H' Z cs ∧ cs.length = i ∧ ∀ x ∈ cs, x ∈ ns) ∧ SameBut b H H' ∧ Box H' b)
    ⟨⟨r, ns, _, _, rfl, hr0, rfl, fun x h => h, nZr.symm, nrb⟩, ⟨[], upd_same, rfl, fun x h => by cases h⟩, SameBut.of s12, hb.same s12⟩ (fun _ _ _ _ _ => True.intro) ?_ ?_
  · rintro i x σ H1 H2 hi ⟨⟨r, rs, u, v, rfl, hrs, hrl, hrm, nrZ, nrb⟩, ⟨cs, hcs, hcl, hcm⟩, hsb, hbx⟩ ⟨rfl, rfl⟩
    refine ⟨_, rfl, _, rfl, r, _, rfl, .inl hrs.sq, b, _, rfl, hbx, by rw [List.length_map]; omega, by rw [List.length_map]; omega, fun d H3 h0 h1 b3 hb3 => ?_⟩
    rw [List.length_map] at h1
    have hr3 : Ls H3 r rs := b3 _ _ nrb hrs
    have hZ3 : Ls H3 Z cs := b3 _ _ nZb hcs
    obtain ⟨j, rfl⟩ : ∃ j : Nat, d = (j : Int) := ⟨d.toNat, by omega⟩
    have hj : j < rs.length := by omega
    have hj2 : rs[j]? = some rs[j] := by simp [hj]
    refine ⟨_, rfl, tyL hZ3.sq, _, rfl, _, rfl, r, _, _, _, rfl, rfl, hr3.sq, atI_nat (v := .int rs[j]) (by rw [List.getElem?_map, hj2]; rfl), ?_⟩
    refine ⟨Z, _, _, rfl, rfl, hZ3, szl (by rw [List.length_map]; omega), ?_⟩
    generalize hH4 : upd H3 Z (.lst (cs.map V.int ++ [.int rs[j]])) = H4
    have hZ4 : Ls H4 Z (cs ++ [rs[j]]) := by rw [← hH4, Ls, upd_same, List.map_append]; rfl
    have hr4 : Ls H4 r rs := by rw [← hH4, Ls, upd_ne nrZ]; exact hr3
    have hb4 : Box H4 b := by obtain ⟨m, c, k, z⟩ := hb3; exact ⟨m, c, k, by rw [← hH4, upd_ne nZb.symm]; exact z⟩
    have sb4 : SameBut b H H4 := fun c o n e => by
      rw [← hH4, upd_ne (ne_of_none e nZ0)]
      exact b3 _ _ n (hsb _ _ n e)
    refine ⟨_, rfl, _, rfl, _, rfl, r, _, rfl, hr4.sq, fun p np => ?_⟩
    have s5 := same_upd (o := .lst (cutV (rs.map V.int) none (some ((j : Nat) : Int)))) np
    refine ⟨_, rfl, _, rfl, _, _, rfl, rfl, _, rfl, r, _, rfl, (s5.seq hr4.sq), fun q nq => ?_⟩
    have s6 := same_upd (o := .lst (cutV (rs.map V.int) (some (((j : Nat) : Int) + 1)) none)) nq
    have nqp : q ≠ p := fun e => by rw [e, upd_same] at nq; cases nq
    have ec1 : cutV (rs.map V.int) none (some ((j : Nat) : Int)) = (rs.take j).map V.int := by rw [cut_to, List.map_take]
    have ec2 : cutV (rs.map V.int) (some (((j : Nat) : Int) + 1)) none = (rs.drop (j + 1)).map V.int := by
      rw [show (((j : Nat) : Int) + 1) = ((j + 1 : Nat) : Int) from by omega, cut_from, List.map_drop]
    refine ⟨p, q, _, _, rfl, rfl, s6 _ _ upd_same, upd_same, ?_, fun t nt => ?_⟩
    · rw [ec1, ec2, List.length_map, List.length_map, List.length_take, List.length_drop]
      exact sz (by omega)
    have s7 := same_upd (o := .lst (cutV (rs.map V.int) none (some ((j : Nat) : Int)) ++ cutV (rs.map V.int) (some (((j : Nat) : Int) + 1)) none)) nt
    have s57 := (s5.trans s6).trans s7
    refine ⟨⟨t, rs.take j ++ rs.drop (j + 1), _, _, rfl, ?_, ?_, ?_, ?_, ?_⟩, ⟨_, s57 _ _ hZ4, ?_, ?_⟩, sb4.trans (SameBut.of s57), hb4.same s57⟩
    · rw [Ls, upd_same, ec1, ec2, List.map_append]
    · rw [List.length_append, List.length_take, List.length_drop]
      omega
    · intro x hx
      rcases List.mem_append.mp hx with h | h
      · exact hrm x (List.mem_of_mem_take h)
      · exact hrm x (List.mem_of_mem_drop h)
    · intro e
      rw [e] at nt
      rw [(s5.trans s6) _ _ hZ4] at nt
      cases nt
    · intro e
      obtain ⟨m, c, k, z⟩ := hb4
      rw [e] at nt
      rw [(s5.trans s6) _ _ z] at nt
      cases nt
    · rw [List.length_append, hcl]
      rfl
    · intro x hx
      rcases List.mem_append.mp hx with h | h
      · exact hcm x h
      · rw [List.mem_singleton.mp h]
        exact hrm _ (List.getElem_mem _)
  · rintro σ H1 ⟨⟨r, rs, u, v, rfl, hrs, hrl, hrm, nrZ, nrb⟩, ⟨cs, hcs, hcl, hcm⟩, hsb, hbx⟩
    exact ⟨_, rfl, hQ Z H1 cs hsb hbx nZ0 hcs hcl hcm⟩
end
end K80
end
section
set_option maxHeartbeats 4000000
namespace K80
open PySem PySem.Spec PyProof.Rows L2 Inf
/-- rows as the law lets them grow -/
structure Grw (n : Nat) (rows : Std) : Prop where
  len : rows.length = n
  zero : row rows 0 = (0, 0)
  bd : ∀ i, 0 ≤ (row rows i).1 ∧ (row rows i).1 ≤ 9999 ∧ 0 ≤ (row rows i).2 ∧ (row rows i).2 ≤ 3
theorem row_set {rows : Std} {i : Nat} {p : Int × Int} (h : i < rows.length) (j : Nat) : row (rows.set i p) j = if j = i then p else row rows j := by
  unfold row
  rw [List.getElem?_set]
  by_cases e : i = j
  · subst e
    simp [h]
  · rw [if_neg e, if_neg (fun q => e q.symm)]
theorem Grw.set {n : Nat} {rows : Std} (h : Grw n rows) {i : Nat} (hi : i < n) (h1 : 1 ≤ i) {p : Int × Int} (hp : 0 ≤ p.1 ∧ p.1 ≤ 9999 ∧ 0 ≤ p.2 ∧ p.2 ≤ 3) : Grw n (rows.set i p) := by
  refine ⟨by rw [List.length_set]; exact h.len, ?_, fun j => ?_⟩
  · rw [row_set (by rw [h.len]; exact hi), if_neg (by omega)]
    exact h.zero
  · rw [row_set (by rw [h.len]; exact hi)]
    split
    · exact hp
    · exact h.bd j
/-- fresh rows under way: D their list -/
structure Wk (b : Addr) (H : Hp) (D : Addr) (xs : List V) (H' : Hp) (rows : Std) : Prop where
  lst : H' D = some (.lst xs)
  rws : Paired (Row H') xs rows
  nd : xs.Nodup
  new : ∀ x ∈ xs, ∃ t, x = .ref t ∧ H t = none
  sb : SameBut b H H'
  bx : Box H' b
  nD : H D = none
theorem Wk.step {b : Addr} {H : Hp} {D : Addr} {xs : List V} {H1 H2 : Hp} {rows : Std} (w : Wk b H D xs H1 rows) (s : SameBut b H1 H2) (hb : Box H2 b) : Wk b H D xs H2 rows := by
  refine ⟨s _ _ (fun e => ?_) w.lst, paired_mono (fun _ _ r => r.but s w.bx) w.rws, w.nd, w.new, w.sb.trans s, hb, w.nD⟩
  obtain ⟨m, c, k, z⟩ := w.bx
  have hl := w.lst
  rw [e, z] at hl
  have hx : [V.int m, V.int c, V.int k] = xs := by cases hl; rfl
  obtain ⟨t, e2, _⟩ := w.new (.int m) (by rw [← hx]; simp)
  cases e2
theorem Wk.set {b : Addr} {H : Hp} {D : Addr} {xs : List V} {H1 : Hp} {rows : Std} (w : Wk b H D xs H1 rows) {i : Nat} {t : Addr} (hi : xs[i]? = some (.ref t)) (p : Int × Int) : Wk b H D xs (upd H1 t (.lst [.int p.1, .int p.2])) (rows.set i p) := by
  obtain ⟨r, hr, t', e, ht⟩ := paired_at w.rws hi
  cases e
  have ntD : D ≠ t := fun e => by
    have hl := w.lst
    rw [e, ht] at hl
    have hx : [V.int r.1, V.int r.2] = xs := by cases hl; rfl
    obtain ⟨_, e2, _⟩ := w.new (.int r.1) (by rw [← hx]; simp)
    cases e2
  have ntb : b ≠ t := fun e => by
    obtain ⟨m, c, k, z⟩ := w.bx
    rw [e, ht] at z
    cases z
  obtain ⟨t0, e0, nt⟩ := w.new _ (List.mem_of_getElem? hi)
  cases e0
  refine ⟨by rw [upd_ne ntD]; exact w.lst, ?_, w.nd, w.new, fun c o n q => by rw [upd_ne (ne_of_none q nt)]; exact w.sb _ _ n q, ?_, w.nD⟩
  · have key : ∀ {xs : List V} {rows : Std} {i : Nat}, Paired (Row H1) xs rows → xs.Nodup → xs[i]? = some (.ref t) → Paired (Row (upd H1 t (.lst [.int p.1, .int p.2]))) xs (rows.set i p) := by
      intro xs rows i hp
      induction hp generalizing i with
      | nil => intro _ h; simp at h
      | @cons x r xs rows a q ih =>
        intro nd h
        have n1 := List.nodup_cons.mp nd
        cases i with
        | zero =>
          simp at h
          subst h
          refine .cons ⟨t, rfl, upd_same⟩ ?_
          have keep : ∀ {ys : List V} {ps : Std}, Paired (Row H1) ys ps → V.ref t ∉ ys → Paired (Row (upd H1 t (.lst [.int p.1, .int p.2]))) ys ps := by
            intro ys ps hq
            induction hq with
            | nil => intro _; exact .nil
            | cons a _ ih2 =>
              intro nm
              obtain ⟨u, e, hu⟩ := a
              refine .cons ⟨u, e, ?_⟩ (ih2 fun m => nm (List.mem_cons_of_mem _ m))
              rw [upd_ne (fun z => nm (by rw [e, z]; exact List.mem_cons_self))]
              exact hu
          exact keep q n1.1
        | succ i =>
          have h' : xs[i]? = some (.ref t) := by simpa using h
          refine .cons ?_ (ih n1.2 h')
          obtain ⟨u, e, hu⟩ := a
          refine ⟨u, e, ?_⟩
          rw [upd_ne (fun z => n1.1 (by rw [e, z]; exact List.mem_of_getElem? h'))]
          exact hu
    exact key w.rws w.nd hi
  · obtain ⟨m, c, k, z⟩ := w.bx
    exact ⟨m, c, k, by rw [upd_ne ntb]; exact z⟩
theorem Wk.st {b : Addr} {H : Hp} {D : Addr} {xs : List V} {H' : Hp} {rows : Std} (w : Wk b H D xs H' rows) : St H' D rows := ⟨xs, w.lst, w.rws, w.nd⟩
theorem Wk.at {b : Addr} {H : Hp} {D : Addr} {xs : List V} {H' : Hp} {rows : Std} (w : Wk b H D xs H' rows) {i : Nat} (h : i < rows.length) : ∃ t, xs[i]? = some (.ref t) ∧ H' t = some (.lst [.int (row rows i).1, .int (row rows i).2]) := by
  obtain ⟨x, hx, t, rfl, ht⟩ := paired_at' w.rws (row_get h)
  exact ⟨t, hx, ht⟩
/-- lawful rows -/
structure Lw (n : Nat) (rows : Std) : Prop where
  g : Grw n rows
  inj : Inj rows
  both : ∀ i, 0 < (row rows i).1 ↔ 0 < (row rows i).2
theorem row_mem {rows : Std} {i : Nat} (h : i < rows.length) : row rows i ∈ rows := List.mem_of_getElem? (row_get h)
theorem lw_of_brk {n : Nat} {rows : Std} (g : Grw n rows) (h : brk rows = "") : Lw n rows := by
  unfold brk at h
  by_cases nd : (posL rows).Nodup
  · rw [if_neg (fun z => z nd)] at h
    by_cases off : offL rows = []
    · have out : ∀ i, ¬ i < rows.length → row rows i = (0, 0) := fun i hi => by unfold row; rw [List.getElem?_eq_none (by omega)]; rfl
      refine ⟨g, fun i j hp he => ?_, fun i => ?_⟩
      · have hi : i < rows.length := Classical.byContradiction fun z => by rw [out i z] at hp; exact absurd hp (by decide)
        have hj : j < rows.length := Classical.byContradiction fun z => by rw [he, out j z] at hp; exact absurd hp (by decide)
        -- two places of one position
        refine Classical.byContradiction fun ne => ?_
        have cnt : ∀ {l : Std} {i j : Nat}, i < j → j < l.length → 0 < (row l i).1 → (row l i).1 = (row l j).1 → ¬ (posL l).Nodup := by
          intro l
          induction l with
          | nil => intro i j _ h; simp at h
          | cons x r ih =>
            intro i j hij hj hp he nd
            have tl : (posL r).Nodup := by
              unfold posL at nd ⊢
              rw [List.map_cons, List.filter_cons] at nd
              split at nd
              · exact (List.nodup_cons.mp nd).2
              · exact nd
            cases i with
            | zero =>
              have hx : row (x :: r) 0 = x := rfl
              rw [hx] at hp he
              obtain ⟨j, rfl⟩ : ∃ k, j = k + 1 := ⟨j - 1, by omega⟩
              have hj2 : row (x :: r) (j + 1) = row r j := by unfold row; simp
              rw [hj2] at he
              unfold posL at nd
              rw [List.map_cons, List.filter_cons, if_pos (by simpa using hp)] at nd
              refine (List.nodup_cons.mp nd).1 ?_
              rw [List.mem_filter]
              refine ⟨?_, by simpa using hp⟩
              rw [he]
              exact List.mem_map_of_mem (f := (·.1)) (row_mem (by simpa using hj))
            | succ i =>
              obtain ⟨j, rfl⟩ : ∃ k, j = k + 1 := ⟨j - 1, by omega⟩
              have h1 : row (x :: r) (i + 1) = row r i := by unfold row; simp
              have h2 : row (x :: r) (j + 1) = row r j := by unfold row; simp
              rw [h1] at hp he
              rw [h2] at he
              exact ih (by omega) (by simpa using hj) hp he tl
        rcases Nat.lt_or_gt_of_ne ne with lt | gt
        · exact cnt lt hj hp he nd
        · exact cnt gt hi (by rw [← he]; exact hp) he.symm nd
      · by_cases hi : i < rows.length
        · refine Classical.byContradiction fun ne => ?_
          have : row rows i ∈ offL rows := by
            unfold offL
            rw [List.mem_filter]
            refine ⟨row_mem hi, decide_eq_true fun e => ne ?_⟩
            rw [decide_eq_decide] at e
            exact e
          rw [off] at this
          cases this
        · rw [out i hi]
    · rw [if_pos off] at h
      cases h
  · rw [if_pos nd] at h
    cases h
section
variable {P : Program} {w : World} {K : PySem.W.Frag} {mg : Str → Option Value} {base : Heap} {f : Addr} {fd : FuncData}
/-! ### _law_later -/
def sp_later (K : PySem.W.Frag) : Sp := fun vs H Q _ => ∃ (b a it : Addr) (rows : Std) (items : List Int) (n : Nat) (top : Int), vs = [.ref b, .ref a, .ref it, .int top] ∧ Box H b ∧ St H a rows ∧ Lw n rows ∧ n ≤ 50 ∧ Ls H it items ∧ it ≠ b ∧ items ≠ [] ∧ items.length ≤ 100 ∧ (∀ k ∈ items, 1 ≤ k ∧ k < (n : Int)) ∧ 1 ≤ top ∧ top ≤ 9999 ∧
  ∀ p H' rows', SameBut b H H' → Box H' b → St H' p rows' → Lw n rows' → Q (.ref p) H'
theorem ok_later (F : FnP K "_law_later" "_law_later" s_later f fd) (B : BT mg) (G_take : Has P w K mg base CX0 1 "_law_take" sp_take) (G_broken : Has P w K mg base CX0 1 "_law_broken" (sp_broken K)) : FnOk P w K mg base CX0 2 f fd ["_law_box", "_law_stand", "_law_items", "_law_top"] (sp_later K) := by
  refine okN F sc_later (fun vs H Q E h => ?_) (fun cdv A outer s H vs Q E hr h => ?_)
  · obtain ⟨_, _, _, _, _, _, _, rfl, _⟩ := h
    rfl
  obtain ⟨b, a, it, rows, items, n, top, rfl, hb, hst, hlw, hn, hL, nib, hne, hil, hik, ht1, ht2, hQ⟩ := h
  refine ⟨_, pss_cons (ps_setLc (i := 4) (own := [("_law_row", 5)]) (g := gName 5) (tt := tYes) rfl sc_later.nd rfl rfl (sw_true rfl rfl rfl (by decide +kernel)) (pi_list (pv 1)) (blkOk_by (own := [("_law_row", 5)]) (N := ["_law_box", "_law_stand", "_law_items", "_law_top", "_law_rows", "_law_row", "_law_kind", "_law_other", "_law_held"]) (sc := defScope s_later) (by decide +kernel)) (fun _ _ _ _ _ => (pg_name (i := 5) sc_later.nd rfl (Or.inl rfl))) (fun _ _ _ _ _ => pts_nil) (fun _ _ _ _ _ => (pe_callTy (callList K) (by rfl) B.list (by decide +kernel) (pa_cons (pv 5) pa_nil))))
    (pss_cons (ps_set (i := 5) sc_later.nd rfl (.inl rfl) (pe_ix ix_list (pv 4) (pe_ix ix_list (pv 2) (pe_c G_take hr (pa_cons (pv 0) (pa_cons (pe_callB call_len_seq (by rfl) B.len (by decide +kernel) (pa_cons (pv 2) pa_nil)) pa_nil))) (fun _ _ => rfl)) (fun _ _ => rfl)))
    (pss_cons (ps_set (i := 6) sc_later.nd rfl (.inl rfl) (pe_c G_take hr (pa_cons (pv 0) (pa_cons pe_int pa_nil))))
    (C8.pss_cut (ps_if (PW.pt (pw_or (pt_cmpR op_eq (pe_ix ix_list (pv 5) pe_int (fun _ _ => rfl)) pe_int (nomark _)) (pw_or1 (pt_cmpR op_eq (pv 6) pe_int (nomark _)))))
     (pss_cons (ps_asg (pe_op op_add pe_int (pe_c G_take hr (pa_cons (pv 0) (pa_cons (pv 3) pa_nil)))) (pg_sub (pv 5) pe_int set_list (fun _ => rfl)))
     (pss_one (ps_asg (pe_op op_add pe_int (pe_c G_take hr (pa_cons (pv 0) (pa_cons pe_int pa_nil)))) (pg_sub (pv 5) pe_int set_list (fun _ => rfl)))))
     (pss_one (ps_if (pt_cmpR op_lt (pv 6) pe_int (nomark _))
      (pss_one (ps_asg (pe_op op_add pe_int (pe_c G_take hr (pa_cons (pv 0) (pa_cons (pv 3) pa_nil)))) (pg_sub (pv 5) pe_int set_list (fun _ => rfl))))
      (pss_one (ps_if (pt_cmpR op_eq (pv 6) pe_int (nomark _))
       (pss_one (ps_asg (pe_op op_add pe_int (pe_c G_take hr (pa_cons (pv 0) (pa_cons pe_int pa_nil)))) (pg_sub (pv 5) pe_int set_list (fun _ => rfl))))
       (pss_one (ps_if (pt_cmpR op_eq (pv 6) pe_int (nomark _))
        (pss_cons (ps_asg pe_int (pg_sub (pv 5) pe_int set_list (fun _ => rfl)))
        (pss_one (ps_asg pe_int (pg_sub (pv 5) pe_int set_list (fun _ => rfl)))))
        (pss_cons (ps_set (i := 7) sc_later.nd rfl (.inl rfl) (pe_ix ix_list (pv 4) (pe_ix ix_list (pv 2) (pe_c G_take hr (pa_cons (pv 0) (pa_cons (pe_callB call_len_seq (by rfl) B.len (by decide +kernel) (pa_cons (pv 2) pa_nil)) pa_nil))) (fun _ _ => rfl)) (fun _ _ => rfl)))
        (pss_one (ps_if (pt_cmpR op_gt (pe_ix ix_list (pv 7) pe_int (fun _ _ => rfl)) pe_int (nomark _))
         (pss_cons (ps_set (i := 8) sc_later.nd rfl (.inl rfl) (pe_ix ix_list (pv 5) pe_int (fun _ _ => rfl)))
         (pss_cons (ps_asg (pe_ix ix_list (pv 7) pe_int (fun _ _ => rfl)) (pg_sub (pv 5) pe_int set_list (fun _ => rfl)))
         (pss_one (ps_asg (pv 8) (pg_sub (pv 7) pe_int set_list (fun _ => rfl))))))
         pss_nil))))))))))
    (pss_cons (ps_if (pt_cmpR op_ne (pe_c G_broken hr (pa_cons (pv 4) pa_nil)) pe_str (nomark _))
     (pss_one (ps_ret (pv 1)))
     pss_nil)
    (pss_one (ps_ret (pv 4))))))), ?_⟩
  obtain ⟨xs, hx, hp, _⟩ := id hst
  have hxl : xs.length = rows.length := Paired.length hp
  have hrl : rows.length = n := hlw.g.len
  refine ⟨_, rfl, a, rfl, ⟨_, SqL.of hx⟩, fun D nD => ?_⟩
  have nDb : D ≠ b := fun e => by obtain ⟨m, c, k, z⟩ := hb; rw [e, z] at nD; cases nD
  refine lc_it (walk_list (xs := xs)) (fun i H' => (∃ ys, H' D = some (.lst ys) ∧ Paired (Row H') ys (rows.take i) ∧ ys.Nodup ∧ (∀ y ∈ ys, ∃ t, y = .ref t ∧ H t = none ∧ H' t ≠ none)) ∧ Same H H') ⟨⟨[], upd_same, .nil, .nil, fun y h => by cases h⟩, same_upd nD⟩ (fun i H' _ p => p.2.seq (SqL.of hx)) ?_ ?_
  · rintro i x H1 H2 hi ⟨⟨ys, hy, hyp, hnd, hnew⟩, hs⟩ ⟨rfl, hk⟩
    obtain ⟨r, hr1, t, rfl, ht⟩ := paired_at hp hk
    refine ⟨rfl, yes_go (iteT ?_)⟩
    refine ⟨_, rfl, t, _, rfl, .inl (SqL.of (hs _ _ ht)), fun q nq => ?_⟩
    have s2 := same_upd (o := .lst [.int r.1, .int r.2]) nq
    have nqD : q ≠ D := fun e => by rw [e, hy] at nq; cases nq
    refine ⟨ys, s2 _ _ hy, szl ?_, ⟨_, upd_same, ?_, ?_, ?_⟩, same_put (hs.trans s2) nD⟩
    · rw [Paired.length hyp, List.length_take]
      omega
    · rw [take_snoc hr1]
      have put : ∀ {x : V} {p : Int × Int}, (∃ t, x = V.ref t ∧ H t = none ∧ H2 t ≠ none) → Row H2 x p → Row (upd (upd H2 q (.lst [.int r.1, .int r.2])) D (.lst (ys ++ [.ref q]))) x p := by
        rintro x p ⟨u, e, _, _⟩ ⟨u', e', hu'⟩
        refine ⟨u', e', ?_⟩
        rw [upd_ne (fun z => ?_)]
        · exact s2 _ _ hu'
        · rw [z, hy] at hu'
          have : ys = [V.int p.1, V.int p.2] := by cases hu'; rfl
          obtain ⟨_, e2, _⟩ := hnew (.int p.1) (by rw [this]; simp)
          cases e2
      have keep : ∀ {ys' : List V} {ps : Std}, Paired (Row H2) ys' ps → (∀ y ∈ ys', ∃ t, y = V.ref t ∧ H t = none ∧ H2 t ≠ none) → Paired (Row (upd (upd H2 q (.lst [.int r.1, .int r.2])) D (.lst (ys ++ [.ref q])))) ys' ps := by
        intro ys' ps hq
        induction hq with
        | nil => intro _; exact .nil
        | cons a _ ih => intro h; exact .cons (put (h _ List.mem_cons_self) a) (ih fun y hy => h y (List.mem_cons_of_mem _ hy))
      refine paired_snoc (keep hyp hnew) ⟨q, rfl, ?_⟩
      rw [upd_ne nqD]
      exact upd_same
    · refine nd_snoc hnd fun m => ?_
      obtain ⟨t', e, _, hn⟩ := hnew _ m
      cases e
      exact hn nq
    · intro y hy'
      rcases List.mem_append.mp hy' with h | h
      · obtain ⟨t', e, h1, h2⟩ := hnew y h
        refine ⟨t', e, h1, fun z => h2 ?_⟩
        by_cases e1 : t' = D
        · rw [e1, upd_same] at z; cases z
        · rw [upd_ne e1] at z
          exact s2.free z
      · rw [List.mem_singleton.mp h]
        refine ⟨q, rfl, hs.free nq, ?_⟩
        rw [upd_ne nqD, upd_same]
        simp
  · rintro H1 ⟨⟨ys, hy, hyp, hnd, hnew⟩, hs⟩
    rw [hxl, List.take_length] at hyp
    have w0 : Wk b H D ys H1 rows := ⟨hy, hyp, hnd, fun y m => let ⟨t, e, z, _⟩ := hnew y m; ⟨t, e, z⟩, SameBut.of hs, hb.same hs, nD⟩
    -- an item drawn
    have draw : ∀ {H2 H3 : Hp} {rows2 : Std} {d : Int}, Wk b H D ys H3 rows2 → rows2.length = n → 0 ≤ d → d < (items.length : Int) → ∃ (j k : Nat) (t : Addr), d = (j : Int) ∧ atI (items.map V.int) d = some (V.int k) ∧ 1 ≤ k ∧ k < n ∧ atI ys (k : Int) = some (V.ref t) ∧ ys[k]? = some (V.ref t) ∧ H3 t = some (.lst [.int (row rows2 k).1, .int (row rows2 k).2]) := by
      intro H2 H3 rows2 d w hl2 h0 h1
      obtain ⟨j, rfl⟩ : ∃ j : Nat, d = (j : Int) := ⟨d.toNat, by omega⟩
      have hj : items[j]? = some items[j] := by simp [show j < items.length by omega]
      obtain ⟨k1, k2⟩ := hik items[j] (List.getElem_mem _)
      obtain ⟨k, hk⟩ : ∃ k : Nat, items[j] = (k : Int) := ⟨items[j].toNat, by omega⟩
      obtain ⟨t, e1, e2⟩ := w.at (i := k) (by rw [hl2]; omega)
      exact ⟨j, k, t, rfl, atI_nat (v := V.int (k : Int)) (by rw [List.getElem?_map, hj, hk]; rfl), by omega, by omega, atI_nat e1, e1, e2⟩
    have itL : ∀ {H2 : Hp}, SameBut b H H2 → Ls H2 it items := fun {H2} s => s _ _ nib hL
    have ipos : 0 < items.length := List.length_pos_iff.mpr hne
    refine ⟨_, rfl, _, rfl, _, rfl, _, rfl, it, _, rfl, .inl (itL w0.sb).sq, b, _, rfl, w0.bx, by rw [List.length_map]; omega, by rw [List.length_map]; omega, fun d H2 d0 d1 b2 hb2 => ?_⟩
    rw [List.length_map] at d1
    have w1 := w0.step b2 hb2
    obtain ⟨j, k, t, rfl, hat, k1, k2, hat2, hyk, ht⟩ := draw (H2 := H2) w1 hrl d0 d1
    refine ⟨it, _, _, _, rfl, rfl, (itL w1.sb).sq, hat, D, _, _, _, rfl, rfl, SqL.of w1.lst, hat2, ?_⟩
    refine ⟨_, rfl, b, _, rfl, w1.bx, by decide, by decide, fun kd H3 kd0 kd1 b3 hb3 => ?_⟩
    have w2 := w1.step b3 hb3
    have gr := hlw.g
    have set0 : ∀ {H4 : Hp} {rs : Std} {i : Nat} {u : Addr} {x : Int}, Wk b H D ys H4 rs → Grw n rs → 1 ≤ i → i < n → ys[i]? = some (.ref u) → 0 ≤ x → x ≤ 9999 → Wk b H D ys (upd H4 u (.lst ([V.int (row rs i).1, V.int (row rs i).2].set 0 (.int x)))) (rs.set i (x, (row rs i).2)) ∧ Grw n (rs.set i (x, (row rs i).2)) :=
      fun {H4 rs i u x} w g i1 i2 hu h0 h1 => ⟨w.set hu (x, (row rs i).2), g.set i2 i1 ⟨h0, h1, (g.bd i).2.2.1, (g.bd i).2.2.2⟩⟩
    have set1 : ∀ {H4 : Hp} {rs : Std} {i : Nat} {u : Addr} {x : Int}, Wk b H D ys H4 rs → Grw n rs → 1 ≤ i → i < n → ys[i]? = some (.ref u) → 0 ≤ x → x ≤ 3 → Wk b H D ys (upd H4 u (.lst ([V.int (row rs i).1, V.int (row rs i).2].set 1 (.int x)))) (rs.set i ((row rs i).1, x)) ∧ Grw n (rs.set i ((row rs i).1, x)) :=
      fun {H4 rs i u x} w g i1 i2 hu h0 h1 => ⟨w.set hu ((row rs i).1, x), g.set i2 i1 ⟨(g.bd i).1, (g.bd i).2.1, h0, h1⟩⟩
    have rowAt : ∀ {H4 : Hp} {rs : Std} {i : Nat} {u : Addr}, Wk b H D ys H4 rs → Grw n rs → i < n → ys[i]? = some (.ref u) → H4 u = some (.lst [.int (row rs i).1, .int (row rs i).2]) := by
      intro H4 rs i u w g hi hu
      obtain ⟨u', e1, e2⟩ := w.at (i := i) (by rw [g.len]; exact hi)
      rw [hu] at e1
      cases e1
      exact e2
    have t2 := rowAt w2 gr k2 hyk
    refine ⟨fun σ' H' => ∃ rs u v y z, σ' = [some (.ref b), some (.ref a), some (.ref it), some (.int top), some (.ref D), u, v, y, z] ∧ Wk b H D ys H' rs ∧ Grw n rs, ?_, ?_⟩
    · refine ⟨_, rfl, t, _, _, _, rfl, rfl, SqL.of t2, at2_0 _, rfl, _, rfl, ?_⟩
      refine ite2 (fun _ => iteT ?_) (fun _ => ?_)
      · refine ⟨_, rfl, _, rfl, b, _, rfl, w2.bx, by omega, by omega, fun e1 H4 a1 a2 b4 hb4 => ?_⟩
        have w3 := w2.step b4 hb4
        have t3 := rowAt w3 gr k2 hyk
        refine ⟨_, _, rfl, rfl, _, rfl, t, _, _, 0, rfl, rfl, t3, rfl, ?_⟩
        obtain ⟨w4, g4⟩ := set0 (x := 1 + e1) w3 gr k1 k2 hyk (by omega) (by omega)
        refine ⟨_, rfl, b, _, rfl, w4.bx, by decide, by decide, fun e2 H5 a3 a4 b5 hb5 => ?_⟩
        have w5 := w4.step b5 hb5
        have t5 := rowAt w5 g4 k2 hyk
        refine ⟨_, _, rfl, rfl, _, rfl, t, _, _, 1, rfl, rfl, t5, rfl, ?_⟩
        obtain ⟨w6, g6⟩ := set1 (x := 1 + e2) w5 g4 k1 k2 hyk (by omega) (by omega)
        exact ⟨_, _, _, _, _, rfl, w6, g6⟩
      refine ⟨_, rfl, rfl, _, rfl, ?_⟩
      refine ite2 (fun _ => ?_) (fun _ => ?_)
      · refine ⟨_, rfl, _, rfl, b, _, rfl, w2.bx, by omega, by omega, fun e1 H4 a1 a2 b4 hb4 => ?_⟩
        have w3 := w2.step b4 hb4
        have t3 := rowAt w3 gr k2 hyk
        refine ⟨_, _, rfl, rfl, _, rfl, t, _, _, 0, rfl, rfl, t3, rfl, ?_⟩
        obtain ⟨w4, g4⟩ := set0 (x := 1 + e1) w3 gr k1 k2 hyk (by omega) (by omega)
        refine ⟨_, rfl, b, _, rfl, w4.bx, by decide, by decide, fun e2 H5 a3 a4 b5 hb5 => ?_⟩
        have w5 := w4.step b5 hb5
        have t5 := rowAt w5 g4 k2 hyk
        refine ⟨_, _, rfl, rfl, _, rfl, t, _, _, 1, rfl, rfl, t5, rfl, ?_⟩
        obtain ⟨w6, g6⟩ := set1 (x := 1 + e2) w5 g4 k1 k2 hyk (by omega) (by omega)
        exact ⟨_, _, _, _, _, rfl, w6, g6⟩
      refine ⟨_, rfl, _, _, rfl, rfl, _, rfl, ?_⟩
      refine ite2 (fun _ => ?_) (fun _ => ?_)
      · refine ⟨_, rfl, _, rfl, b, _, rfl, w2.bx, by omega, by omega, fun e1 H4 a1 a2 b4 hb4 => ?_⟩
        have w3 := w2.step b4 hb4
        have t3 := rowAt w3 gr k2 hyk
        refine ⟨_, _, rfl, rfl, _, rfl, t, _, _, 0, rfl, rfl, t3, rfl, ?_⟩
        obtain ⟨w4, g4⟩ := set0 (x := 1 + e1) w3 gr k1 k2 hyk (by omega) (by omega)
        exact ⟨_, _, _, _, _, rfl, w4, g4⟩
      refine ⟨_, rfl, rfl, _, rfl, ?_⟩
      refine ite2 (fun _ => ?_) (fun _ => ?_)
      · refine ⟨_, rfl, b, _, rfl, w2.bx, by decide, by decide, fun e1 H4 a1 a2 b4 hb4 => ?_⟩
        have w3 := w2.step b4 hb4
        have t3 := rowAt w3 gr k2 hyk
        refine ⟨_, _, rfl, rfl, _, rfl, t, _, _, 1, rfl, rfl, t3, rfl, ?_⟩
        obtain ⟨w4, g4⟩ := set1 (x := 1 + e1) w3 gr k1 k2 hyk (by omega) (by omega)
        exact ⟨_, _, _, _, _, rfl, w4, g4⟩
      refine ⟨_, rfl, rfl, _, rfl, ?_⟩
      refine ite2 (fun _ => ?_) (fun _ => ?_)
      · refine ⟨_, rfl, t, _, _, 0, rfl, rfl, t2, rfl, ?_⟩
        obtain ⟨w4, g4⟩ := set0 (x := 0) w2 gr k1 k2 hyk (by omega) (by omega)
        have t4 := rowAt w4 g4 k2 hyk
        refine ⟨_, rfl, t, _, _, 1, rfl, rfl, t4, rfl, ?_⟩
        obtain ⟨w5, g5⟩ := set1 (x := 0) w4 g4 k1 k2 hyk (by omega) (by omega)
        exact ⟨_, _, _, _, _, rfl, w5, g5⟩
      refine ⟨_, rfl, _, rfl, _, rfl, _, rfl, it, _, rfl, .inl (itL w2.sb).sq, b, _, rfl, w2.bx, by rw [List.length_map]; omega, by rw [List.length_map]; omega, fun d2 H4 f0 f1 b4 hb4 => ?_⟩
      rw [List.length_map] at f1
      have w3 := w2.step b4 hb4
      obtain ⟨j2, m, u, rfl, hatm, m1, m2, hatm2, hym, hu⟩ := draw (H2 := H2) w3 hrl f0 f1
      refine ⟨it, _, _, _, rfl, rfl, (itL w3.sb).sq, hatm, D, _, _, _, rfl, rfl, SqL.of w3.lst, hatm2, ?_⟩
      refine ⟨_, rfl, u, _, _, _, rfl, rfl, SqL.of hu, at2_0 _, _, _, rfl, rfl, _, rfl, ?_⟩
      refine ite2 (fun _ => ?_) (fun _ => ?_)
      · have t3 := rowAt w3 gr k2 hyk
        refine ⟨_, rfl, t, _, _, _, rfl, rfl, SqL.of t3, at2_0 _, ?_⟩
        refine ⟨_, rfl, u, _, _, _, rfl, rfl, SqL.of hu, at2_0 _, ?_⟩
        refine ⟨_, rfl, t, _, _, 0, rfl, rfl, t3, rfl, ?_⟩
        obtain ⟨w4, g4⟩ := set0 (x := (row rows m).1) w3 gr k1 k2 hyk (gr.bd m).1 (gr.bd m).2.1
        have u4 := rowAt w4 g4 m2 hym
        refine ⟨_, rfl, _, rfl, u, _, _, 0, rfl, rfl, u4, rfl, ?_⟩
        obtain ⟨w5, g5⟩ := set0 (x := (row rows k).1) w4 g4 m1 m2 hym (gr.bd k).1 (gr.bd k).2.1
        exact ⟨_, _, _, _, _, rfl, w5, g5⟩
      · exact ⟨_, _, _, _, _, rfl, w3, gr⟩
    · rintro σ' H' ⟨rs, u, v, y, z, rfl, w3, g3⟩
      refine ⟨_, rfl, D, rs, rfl, w3.st, by rw [g3.len]; omega, fun H4 h4 => ?_⟩
      refine ⟨rfl, _, rfl, ?_⟩
      have hb4 := w3.bx.same h4
      have w4 := w3.step (SameBut.of h4) hb4
      refine ite2 (fun c => ?_) (fun c => ?_)
      · refine ⟨_, rfl, hQ a H4 rows w4.sb hb4 ?_ hlw⟩
        exact St.but w4.sb hb hst
      · refine ⟨_, rfl, hQ D H4 rs w4.sb hb4 w4.st (lw_of_brk g3 ?_)⟩
        refine Classical.byContradiction fun ne => c ?_
        rw [decide_eq_false (fun e => ne (V.str.inj e))]
        rfl
/-! ### _law_grown -/
def sp_grown (K : PySem.W.Frag) : Sp := fun vs H Q _ => ∃ (b a it : Addr) (rows : Std) (items : List Int) (n m : Nat) (top : Int), vs = [.ref b, .ref a, .ref it, .int top, .int m] ∧ m ≤ 10000 ∧ Box H b ∧ St H a rows ∧ Lw n rows ∧ n ≤ 50 ∧ Ls H it items ∧ it ≠ b ∧ items ≠ [] ∧ items.length ≤ 100 ∧ (∀ k ∈ items, 1 ≤ k ∧ k < (n : Int)) ∧ 1 ≤ top ∧ top ≤ 9999 ∧
  ∀ p H' rows', SameBut b H H' → Box H' b → St H' p rows' → Lw n rows' → Q (.ref p) H'
theorem ok_grown (F : FnP K "_law_grown" "_law_grown" s_grown f fd) (B : BT mg) (G_later : Has P w K mg base CX0 2 "_law_later" (sp_later K)) : FnOk P w K mg base CX0 3 f fd ["_law_box", "_law_stand", "_law_items", "_law_top", "_law_steps"] (sp_grown K) := by
  refine okN F sc_grown (fun vs H Q E h => ?_) (fun cdv A outer s H vs Q E hr h => ?_)
  · obtain ⟨_, _, _, _, _, _, _, _, rfl, _⟩ := h
    rfl
  obtain ⟨b, a, it, rows, items, n, m, top, rfl, hm, hb, hst, hlw, hn, hL, nib, hne, hil, hik, ht1, ht2, hQ⟩ := h
  refine ⟨_, pss_cons (ps_set (i := 5) sc_grown.nd rfl (.inl rfl) (pv 1))
    (pss_cons (ps_for PassesOwn.never rfl (pi_range1 rfl B.range (pa_cons (pv 4) pa_nil)) (pg_name (i := 6) sc_grown.nd rfl (Or.inl rfl))
     (pss_one (ps_set (i := 5) sc_grown.nd rfl (.inl rfl) (pe_c G_later hr (pa_cons (pv 0) (pa_cons (pv 5) (pa_cons (pv 2) (pa_cons (pv 3) pa_nil))))))))
    (pss_one (ps_ret (pv 5)))), ?_⟩
  refine ⟨_, rfl, _, rfl, _, rfl, by omega, by omega, ?_⟩
  rw [show ((m : Int)).toNat = m from by omega]
  refine for_it walk_range (fun i σ H' => ∃ p rs u, σ = [some (.ref b), some (.ref a), some (.ref it), some (.int top), some (.int m), some (.ref p), u] ∧ SameBut b H H' ∧ Box H' b ∧ St H' p rs ∧ Lw n rs) ⟨a, rows, _, rfl, SameBut.refl _ _, hb, hst, hlw⟩ (fun _ _ _ _ _ => True.intro) ?_ ?_
  · rintro i x σ H1 H2 hi ⟨p, rs, u, rfl, hs, hbx, hp, hl⟩ ⟨rfl, rfl⟩
    exact ⟨_, rfl, _, rfl, _, rfl, _, rfl, b, p, it, rs, items, n, top, rfl, hbx, hp, hl, hn, hs _ _ nib hL, nib, hne, hil, hik, ht1, ht2, fun q H3 rs' b3 hb3 hst3 hlw3 => ⟨q, rs', _, rfl, hs.trans b3, hb3, hst3, hlw3⟩⟩
  · rintro σ H1 ⟨p, rs, u, rfl, hs, hbx, hp, hl⟩
    exact ⟨_, rfl, hQ p H1 rs hs hbx hp hl⟩
end
end K80
end
section
set_option maxHeartbeats 4000000
namespace K80
open PySem PySem.Spec PyProof.Rows L2 Inf
def upTo (n : Nat) : List Int := (List.range n).map fun (j : Nat) => (j : Int) + 1
theorem upTo_succ (n : Nat) : upTo (n + 1) = upTo n ++ [(n : Int) + 1] := by
  unfold upTo
  rw [List.range_succ, List.map_append]
  rfl
theorem upTo_len (n : Nat) : (upTo n).length = n := by simp [upTo]
theorem mem_upTo {n : Nat} {k : Int} (h : k ∈ upTo n) : 1 ≤ k ∧ k ≤ n := by
  obtain ⟨j, hj, rfl⟩ := List.mem_map.mp h
  have := List.mem_range.mp hj
  omega
/-- a drawer's list of items -/
def ItL (H : Hp) (b : Addr) (n : Nat) (x : Addr) : Prop := ∃ xs, Ls H x xs ∧ xs ≠ [] ∧ xs.length ≤ 100 ∧ (∀ k ∈ xs, 1 ≤ k ∧ k ≤ (n : Int)) ∧ x ≠ b
section
variable {P : Program} {w : World} {K : PySem.W.Frag} {mg : Str → Option Value} {base : Heap} {f : Addr} {fd : FuncData}
/-! ### _law_sides -/
def sp_sides (K : PySem.W.Frag) : Sp := fun vs H Q _ => ∃ (b : Addr) (n : Nat), vs = [.ref b, .int n] ∧ Box H b ∧ 1 ≤ n ∧ n ≤ 50 ∧
  ∀ p x y H', SameBut b H H' → Box H' b → H' p = some (.lst [.ref x, .ref y]) → ItL H' b n x → ItL H' b n y → Q (.ref p) H'
theorem ok_sides (F : FnP K "_law_sides" "_law_sides" s_sides f fd) (B : BT mg) (G_take : Has P w K mg base CX0 1 "_law_take" sp_take) (G_choose : Has P w K mg base CX0 2 "_law_choose" (sp_choose K)) : FnOk P w K mg base CX0 3 f fd ["_law_box", "_law_count"] (sp_sides K) := by
  refine okN F sc_sides (fun vs H Q E h => ?_) (fun cdv A outer s H vs Q E hr h => ?_)
  · obtain ⟨_, _, rfl, _⟩ := h
    rfl
  obtain ⟨b, n, rfl, hb, h1, hn, hQ⟩ := h
  refine ⟨_, pss_cons (ps_setLc (i := 2) (own := [("_law_k", 5)]) (g := gName 5) (tt := tYes) rfl sc_sides.nd rfl rfl (sw_true rfl rfl rfl (by decide +kernel)) (pi_range1 rfl B.range (pa_cons (pv 1) pa_nil)) (blkOk_by (own := [("_law_k", 5)]) (N := ["_law_box", "_law_count", "_law_items", "_law_cut", "_law_turned", "_law_k"]) (sc := defScope s_sides) (by decide +kernel)) (fun _ _ _ _ _ => (pg_name (i := 5) sc_sides.nd rfl (Or.inl rfl))) (fun _ _ _ _ _ => pts_nil) (fun _ _ _ _ _ => (pe_op op_add (pv 5) pe_int)))
    (pss_cons (ps_if (PW.pt (pw_or (pt_cmpR op_lt (pv 1) pe_int (nomark _)) (pw_or1 (pt_cmpR op_eq (pe_c G_take hr (pa_cons (pv 0) (pa_cons pe_int pa_nil))) pe_int (nomark _)))))
     (pss_one (ps_ret (pe_lst (pa_cons (pv 2) (pa_cons (pv 2) pa_nil)))))
     pss_nil)
    (pss_cons (ps_set (i := 3) sc_sides.nd rfl (.inl rfl) (pe_op op_add pe_int (pe_c G_take hr (pa_cons (pv 0) (pa_cons (pe_op op_sub (pv 1) pe_int) pa_nil)))))
    (pss_cons (ps_set (i := 4) sc_sides.nd rfl (.inl rfl) (pe_c G_choose hr (pa_cons (pv 0) (pa_cons (pv 2) (pa_cons (pv 1) pa_nil)))))
    (pss_one (ps_ret (pe_lst (pa_cons (pe_slice sl_list (pv 4) po_none (po_some (pv 3))) (pa_cons (pe_slice sl_list (pv 4) (po_some (pv 3)) po_none) pa_nil)))))))), ?_⟩
  refine ⟨_, rfl, _, rfl, by omega, by omega, fun D nD => ?_⟩
  rw [show ((n : Int)).toNat = n from by omega]
  refine lc_it walk_range (fun i H' => Ls H' D (upTo i) ∧ Same H H') ⟨upd_same, same_upd nD⟩ (fun _ _ _ _ => True.intro) ?_ ?_
  · rintro i x H1 H2 hi ⟨hl, hs⟩ ⟨rfl, rfl⟩
    refine ⟨rfl, yes_go (iteT ?_)⟩
    refine ⟨_, rfl, _, _, rfl, rfl, _, hl, szl (by rw [List.length_map, upTo_len]; omega), ?_, same_put hs nD⟩
    rw [Ls, upd_same, upTo_succ, List.map_append]
    show some (HO.lst (List.map V.int (upTo i) ++ [V.int (0 + (i : Int) + 1)])) = _
    rw [Int.zero_add]
    rfl
  · rintro H1 ⟨hl, hs⟩
    have nDb : D ≠ b := fun e => by obtain ⟨m, c, k, z⟩ := hb; rw [e, z] at nD; cases nD
    have all : ∀ {H' : Hp}, Ls H' D (upTo n) → ItL H' b n D := fun {H'} h => ⟨_, h, fun e => by have := upTo_len n; rw [e] at this; simp at this; omega, by rw [upTo_len]; omega, fun k hk => mem_upTo hk, nDb⟩
    have give : ∀ {H' : Hp}, SameBut b H H' → Box H' b → Ls H' D (upTo n) → ∀ (p : Addr), H' p = none → Q (.ref p) (upd H' p (.lst [.ref D, .ref D])) := by
      intro H' s hb' hD p np
      have s2 := same_upd (o := .lst [V.ref D, V.ref D]) np
      exact hQ p D D _ (s.trans (SameBut.of s2)) (hb'.same s2) upd_same (all (s2 _ _ hD)) (all (s2 _ _ hD))
    refine ⟨_, rfl, _, _, rfl, rfl, _, rfl, ?_⟩
    refine ite2 (fun _ => ?_) (fun c => ?_)
    · exact iteT ⟨_, rfl, _, rfl, szr, fun p np => give (SameBut.of hs) (hb.same hs) hl p np⟩
    have n2 : 2 ≤ n := by
      refine Classical.byContradiction fun z => c (decide_eq_true ?_)
      show ((n : Nat) : Int) < 2
      omega
    refine ⟨_, rfl, b, _, rfl, hb.same hs, by decide, by decide, fun d H2 d0 d1 b2 hb2 => ?_⟩
    have sb2 : SameBut b H H2 := (SameBut.of hs).trans b2
    have hl2 : Ls H2 D (upTo n) := b2 _ _ nDb hl
    refine ⟨rfl, _, rfl, ?_⟩
    refine ite2 (fun _ => ?_) (fun _ => ?_)
    · exact ⟨_, rfl, _, rfl, szr, fun p np => give sb2 hb2 hl2 p np⟩
    refine ⟨_, rfl, _, rfl, _, _, rfl, rfl, b, _, rfl, hb2, by omega, by omega, fun d H3 e0 e1 b3 hb3 => ?_⟩
    have sb3 := sb2.trans b3
    have hl3 : Ls H3 D (upTo n) := b3 _ _ nDb hl2
    refine ⟨_, _, rfl, rfl, ?_⟩
    obtain ⟨j, rfl⟩ : ∃ j : Nat, d = (j : Int) := ⟨d.toNat, by omega⟩
    refine ⟨_, rfl, _, rfl, _, rfl, b, D, upTo n, n, rfl, hb3, hl3, nDb, by rw [upTo_len]; omega, by rw [upTo_len]; exact Nat.le_refl _, fun t H4 cs b4 hb4 nt hcs hcl hcm => ?_⟩
    have sb4 := sb3.trans b4
    have ntb : t ≠ b := fun e => by obtain ⟨m, c, k, z⟩ := hb3; rw [e, z] at nt; cases nt
    refine ⟨_, rfl, _, rfl, _, rfl, t, _, rfl, hcs.sq, fun p np => ?_⟩
    have s5 := same_upd (o := .lst (cutV (cs.map V.int) none (some (1 + (j : Int))))) np
    refine ⟨_, rfl, _, rfl, _, rfl, t, _, rfl, s5.seq hcs.sq, fun q nq => ?_⟩
    have s6 := same_upd (o := .lst (cutV (cs.map V.int) (some (1 + (j : Int))) none)) nq
    have ec1 : cutV (cs.map V.int) none (some (1 + (j : Int))) = (cs.take (1 + j)).map V.int := by
      rw [show (1 + (j : Int)) = ((1 + j : Nat) : Int) from by omega, cut_to, List.map_take]
    have ec2 : cutV (cs.map V.int) (some (1 + (j : Int))) none = (cs.drop (1 + j)).map V.int := by
      rw [show (1 + (j : Int)) = ((1 + j : Nat) : Int) from by omega, cut_from, List.map_drop]
    refine ⟨szr, fun r nr => ?_⟩
    have s7 := same_upd (o := .lst [V.ref p, V.ref q]) nr
    have npb : p ≠ b := fun e => by obtain ⟨m, c, k, z⟩ := hb4; rw [e, z] at np; cases np
    have nqb : q ≠ b := fun e => by obtain ⟨m, c, k, z⟩ := hb4; rw [e, s5 _ _ z] at nq; cases nq
    refine hQ r p q _ (sb4.trans (SameBut.of ((s5.trans s6).trans s7))) (hb4.same ((s5.trans s6).trans s7)) upd_same ⟨cs.take (1 + j), ?_, ?_, ?_, ?_, npb⟩ ⟨cs.drop (1 + j), ?_, ?_, ?_, ?_, nqb⟩
    · exact s7 _ _ (s6 _ _ (by rw [upd_same, ec1]))
    · intro e
      have := congrArg List.length e
      rw [List.length_take, List.length_nil] at this
      omega
    · rw [List.length_take]; omega
    · exact fun k hk => mem_upTo (hcm k (List.mem_of_mem_take hk))
    · exact s7 _ _ (by rw [upd_same, ec2])
    · intro e
      have := congrArg List.length e
      rw [List.length_drop, List.length_nil] at this
      omega
    · rw [List.length_drop]; omega
    · exact fun k hk => mem_upTo (hcm k (List.mem_of_mem_drop hk))
end
/-! ### three stands -/
structure Th (H : Hp) (a : Addr) (r0 r1 r2 : Std) : Prop where
  ex : ∃ x y z, H a = some (.lst [.ref x, .ref y, .ref z]) ∧ St H x r0 ∧ St H y r1 ∧ St H z r2
theorem Th.same {H H' : Hp} (e : Same H H') {a : Addr} {r0 r1 r2 : Std} (h : Th H a r0 r1 r2) : Th H' a r0 r1 r2 := let ⟨x, y, z, h0, h1, h2, h3⟩ := h.ex; ⟨x, y, z, e _ _ h0, h1.same e, h2.same e, h3.same e⟩
/-- three[k][i] -/
theorem St.at {H : Hp} {a : Addr} {rows : Std} (h : St H a rows) {i : Nat} (hi : i < rows.length) : ∃ xs t, H a = some (.lst xs) ∧ atI xs (i : Int) = some (.ref t) ∧ H t = some (.lst [.int (row rows i).1, .int (row rows i).2]) := by
  obtain ⟨xs, hx, hp, _⟩ := h
  obtain ⟨t, e1, e2⟩ := st_row hp hi
  exact ⟨xs, t, hx, e1, e2⟩
theorem St.len {H : Hp} {a : Addr} {rows : Std} (h : St H a rows) : ∃ xs, H a = some (.lst xs) ∧ xs.length = rows.length := by
  obtain ⟨xs, hx, hp, _⟩ := h
  exact ⟨xs, hx, Paired.length hp⟩
/-- items that both sides put somewhere else -/
def twc (r0 r1 r2 : Std) (i : Nat) : Bool := decide (0 < (row r1 i).1 ∧ 0 < (row r2 i).1 ∧ (row r1 i).1 ≠ (row r2 i).1 ∧ (row r1 i).1 ≠ (row r0 i).1 ∧ (row r2 i).1 ≠ (row r0 i).1)
def twTo (r0 r1 r2 : Std) (n : Nat) : List Int := ((List.range n).filter fun j => twc r0 r1 r2 (1 + j)).map fun (j : Nat) => ((1 + j : Nat) : Int)
def twL (r0 r1 r2 : Std) : List Int := twTo r0 r1 r2 (r0.length - 1)
theorem twTo_succ (r0 r1 r2 : Std) (n : Nat) : twTo r0 r1 r2 (n + 1) = twTo r0 r1 r2 n ++ (if twc r0 r1 r2 (1 + n) = true then [((1 + n : Nat) : Int)] else []) := by
  unfold twTo
  rw [List.range_succ, List.filter_append, List.map_append]
  congr 1
  by_cases h : twc r0 r1 r2 (1 + n) = true
  · rw [if_pos h]; simp [h]
  · rw [if_neg h]; simp [h]
theorem twTo_len (r0 r1 r2 : Std) (n : Nat) : (twTo r0 r1 r2 n).length ≤ n := by
  unfold twTo
  rw [List.length_map]
  have := List.length_filter_le (fun j => twc r0 r1 r2 (1 + j)) (List.range n)
  rw [List.length_range] at this
  exact this
theorem decNe {a b : Int} : (!decide (V.int a = V.int b)) = decide (a ≠ b) := by
  rw [Bool.eq_iff_iff]
  simp
section
variable {P : Program} {w : World} {K : PySem.W.Frag} {mg : Str → Option Value} {base : Heap} {f : Addr} {fd : FuncData}
/-! ### _law_twice -/
def sp_twice (K : PySem.W.Frag) : Sp := fun vs H Q _ => ∃ (a : Addr) (r0 r1 r2 : Std) (n : Nat), vs = [.ref a] ∧ Th H a r0 r1 r2 ∧ r0.length = n ∧ r1.length = n ∧ r2.length = n ∧ 0 < n ∧ n ≤ 100 ∧ ∀ p H', Same H H' → H p = none → Ls H' p (twL r0 r1 r2) → Q (.ref p) H'
theorem ok_twice (F : FnP K "_law_twice" "_law_twice" s_twice f fd) (B : BT mg) : FnOk P w K mg base CX0 1 f fd ["_law_three"] (sp_twice K) := by
  refine okN F sc_twice (fun vs H Q E h => ?_) (fun cdv A outer s H vs Q E hr h => ?_)
  · obtain ⟨_, _, _, _, _, rfl, _⟩ := h
    rfl
  obtain ⟨a, r0, r1, r2, n, rfl, ⟨x, y, z, h0, hx, hy, hz⟩, l0, l1, l2, hn0, hn, hQ⟩ := h
  refine ⟨_, pss_cons (ps_set (i := 1) sc_twice.nd rfl (.inl rfl) (pe_lst pa_nil))
    (pss_cons (ps_for PassesOwn.never rfl (pi_range2 rfl B.range (pa_cons pe_int (pa_cons (pe_callB call_len_seq (by rfl) B.len (by decide +kernel) (pa_cons (pe_ix ix_list (pv 0) pe_int (fun _ _ => rfl)) pa_nil)) pa_nil))) (pg_name (i := 2) sc_twice.nd rfl (Or.inl rfl))
     (pss_cons (ps_set (i := 3) sc_twice.nd rfl (.inl rfl) (pe_ix ix_list (pe_ix ix_list (pe_ix ix_list (pv 0) pe_int (fun _ _ => rfl)) (pv 2) (fun _ _ => rfl)) pe_int (fun _ _ => rfl)))
     (pss_cons (ps_set (i := 4) sc_twice.nd rfl (.inl rfl) (pe_ix ix_list (pe_ix ix_list (pe_ix ix_list (pv 0) pe_int (fun _ _ => rfl)) (pv 2) (fun _ _ => rfl)) pe_int (fun _ _ => rfl)))
     (pss_cons (ps_set (i := 5) sc_twice.nd rfl (.inl rfl) (pe_ix ix_list (pe_ix ix_list (pe_ix ix_list (pv 0) pe_int (fun _ _ => rfl)) (pv 2) (fun _ _ => rfl)) pe_int (fun _ _ => rfl)))
     (pss_one (ps_if (PW.pt (pw_and (pt_cmpR op_gt (pv 4) pe_int (nomark _)) (pw_and (pt_cmpR op_gt (pv 5) pe_int (nomark _)) (pw_and (pt_cmpR op_ne (pv 4) (pv 5) (nomark _)) (pw_and (pt_cmpR op_ne (pv 4) (pv 3) (nomark _)) (pw_and1 (pt_cmpR op_ne (pv 5) (pv 3) (nomark _))))))))
      (pss_one (ps_expr (pe_bm PySem.F.plainAttrs_list PySem.F.slot_list_append PySem.F.type_list_append mt_append (pv 1) (pa_cons (pv 2) pa_nil))))
      pss_nil))))))
    (pss_one (ps_ret (pv 1)))), ?_⟩
  refine ⟨szr, fun D nD => ?_⟩
  have sD := same_upd (o := .lst []) nD
  have a0 : atI [V.ref x, V.ref y, V.ref z] 0 = some (.ref x) := atI_nat (j := 0) rfl
  have a1 : atI [V.ref x, V.ref y, V.ref z] 1 = some (.ref y) := atI_nat (j := 1) rfl
  have a2 : atI [V.ref x, V.ref y, V.ref z] 2 = some (.ref z) := atI_nat (j := 2) rfl
  obtain ⟨ws, hws, hwl⟩ := hx.len
  refine ⟨_, rfl, a, _, _, _, rfl, rfl, SqL.of (sD _ _ h0), a0, x, _, rfl, .inl (SqL.of (sD _ _ hws)), _, _, rfl, ⟨by decide, by decide, by omega, by omega⟩, ?_⟩
  rw [hwl, l0, show ((n : Int) - 1).toNat = n - 1 from by omega]
  refine for_it walk_range (fun i σ H' => (∃ u v y z, σ = [some (.ref a), some (.ref D), u, v, y, z]) ∧ Ls H' D (twTo r0 r1 r2 i) ∧ Same H H') ⟨⟨_, _, _, _, rfl⟩, upd_same, sD⟩ (fun _ _ _ _ _ => True.intro) ?_ ?_
  · rintro i q σ H1 H2 hi ⟨⟨u, v, y0, z0, rfl⟩, hl, hs⟩ ⟨rfl, rfl⟩
    obtain ⟨w0, t0, hw0, e0, ht0⟩ := (hx.same hs).at (i := 1 + i) (by omega)
    obtain ⟨w1, t1, hw1, e1, ht1⟩ := (hy.same hs).at (i := 1 + i) (by omega)
    obtain ⟨w2, t2, hw2, e2, ht2⟩ := (hz.same hs).at (i := 1 + i) (by omega)
    have ei : ((1 : Int) + (i : Nat)) = ((1 + i : Nat) : Int) := by omega
    refine ⟨_, rfl, a, _, _, _, rfl, rfl, SqL.of (hs _ _ h0), a0, _, rfl, x, _, _, _, rfl, rfl, SqL.of hw0, (by rw [ei]; exact e0), t0, _, _, _, rfl, rfl, SqL.of ht0, at2_0 _, ?_⟩
    refine ⟨_, rfl, a, _, _, _, rfl, rfl, SqL.of (hs _ _ h0), a1, _, rfl, y, _, _, _, rfl, rfl, SqL.of hw1, (by rw [ei]; exact e1), t1, _, _, _, rfl, rfl, SqL.of ht1, at2_0 _, ?_⟩
    refine ⟨_, rfl, a, _, _, _, rfl, rfl, SqL.of (hs _ _ h0), a2, _, rfl, z, _, _, _, rfl, rfl, SqL.of hw2, (by rw [ei]; exact e2), t2, _, _, _, rfl, rfl, SqL.of ht2, at2_0 _, ?_⟩
    have ts := twTo_succ r0 r1 r2 i
    have tl := twTo_len r0 r1 r2 i
    have no : ¬ (0 < (row r1 (1 + i)).1 ∧ 0 < (row r2 (1 + i)).1 ∧ (row r1 (1 + i)).1 ≠ (row r2 (1 + i)).1 ∧ (row r1 (1 + i)).1 ≠ (row r0 (1 + i)).1 ∧ (row r2 (1 + i)).1 ≠ (row r0 (1 + i)).1) → Ls H2 D (twTo r0 r1 r2 (i + 1)) := by
      intro h
      rw [ts, if_neg (show ¬ twc r0 r1 r2 (1 + i) = true from fun z => h (of_decide_eq_true z)), List.append_nil]
      exact hl
    refine ⟨_, rfl, _, _, rfl, rfl, _, rfl, ?_⟩
    refine ite2 (fun c1 => ?_) (fun c1 => iteF ⟨⟨_, _, _, _, rfl⟩, no (fun h => c1 (decide_eq_true h.1)), hs⟩)
    refine ⟨_, rfl, _, _, rfl, rfl, _, rfl, ?_⟩
    refine ite2 (fun c2 => ?_) (fun c2 => iteF ⟨⟨_, _, _, _, rfl⟩, no (fun h => c2 (decide_eq_true h.2.1)), hs⟩)
    refine ⟨_, rfl, _, rfl, rfl, _, rfl, ?_⟩
    rw [decNe]
    refine ite2 (fun c3 => ?_) (fun c3 => iteF ⟨⟨_, _, _, _, rfl⟩, no (fun h => c3 (decide_eq_true h.2.2.1)), hs⟩)
    refine ⟨_, rfl, _, rfl, rfl, _, rfl, ?_⟩
    rw [decNe]
    refine ite2 (fun c4 => ?_) (fun c4 => iteF ⟨⟨_, _, _, _, rfl⟩, no (fun h => c4 (decide_eq_true h.2.2.2.1)), hs⟩)
    refine ⟨_, rfl, _, rfl, rfl, _, rfl, ?_⟩
    rw [decNe]
    refine ite2 (fun c5 => ?_) (fun c5 => ⟨⟨_, _, _, _, rfl⟩, no (fun h => c5 (decide_eq_true h.2.2.2.2)), hs⟩)
    refine ⟨_, rfl, tyL hl.sq, _, rfl, D, _, _, rfl, rfl, hl, szl (by rw [List.length_map]; omega), ⟨_, _, _, _, rfl⟩, ?_, same_put hs nD⟩
    rw [ts, if_pos (show twc r0 r1 r2 (1 + i) = true from decide_eq_true ⟨of_decide_eq_true c1, of_decide_eq_true c2, of_decide_eq_true c3, of_decide_eq_true c4, of_decide_eq_true c5⟩), Ls, upd_same, List.map_append]
    show some (HO.lst (List.map V.int (twTo r0 r1 r2 i) ++ [V.int (1 + (i : Int))])) = _
    rw [ei]
    rfl
  · rintro σ H1 ⟨⟨u, v, y0, z0, rfl⟩, hl, hs⟩
    refine ⟨_, rfl, hQ D H1 hs nD ?_⟩
    unfold twL
    rw [l0]
    exact hl
end
end K80
end
section
set_option maxHeartbeats 4000000
namespace K80
open PySem PySem.Spec PyProof.Rows L2 Inf
theorem cho_none {α : Type} [DecidableEq α] {b o t : Option α} (h1 : o ≠ t) (h2 : o ≠ b) (h3 : t ≠ b) : cho b o t = none := by
  unfold cho
  rw [if_neg (fun z => z.elim h1 h3), if_neg h2]
theorem cho_some {α : Type} [DecidableEq α] {b o t : Option α} (h : ¬ (o ≠ t ∧ o ≠ b ∧ t ≠ b)) : cho b o t = some (if o = b then t else o) := by
  unfold cho
  by_cases h1 : o = t
  · rw [if_pos (.inl h1)]
    subst h1
    split <;> rfl
  · by_cases h2 : o = b
    · rw [if_pos h2]
      by_cases h3 : t = b
      · exact absurd (h2.trans h3.symm) h1
      · rw [if_neg (fun z => z.elim h1 h3), if_pos h2]
    · rw [if_neg h2]
      by_cases h3 : t = b
      · rw [if_pos (.inr h3), if_neg h2]
      · exact absurd ⟨h1, h2, h3⟩ h
theorem pw_lt {l : List Int} (h : l.Pairwise (· ≤ ·)) (nd : l.Nodup) : l.Pairwise (· < ·) := by
  rw [List.nodup_iff_pairwise_ne] at nd
  exact (h.and nd).imp fun ⟨a, b⟩ => by omega
section
variable {P : Program} {w : World} {K : PySem.W.Frag} {mg : Str → Option Value} {base : Heap} {f : Addr} {fd : FuncData}
/-! ### _law_by_positions -/
def sp_by_positions (K : PySem.W.Frag) : Sp := fun vs H Q _ => ∃ (a x y z : Addr) (l0 l1 l2 : Arr), vs = [.ref a] ∧ H a = some (.lst [.ref x, .ref y, .ref z]) ∧ Ar H x l0 ∧ Ar H y l1 ∧ Ar H z l2 ∧ (l0.map (·.1)).Nodup ∧ (l1.map (·.1)).Nodup ∧ (l2.map (·.1)).Nodup ∧ l0.length + (l1.length + l2.length) < 64 ∧
  (clashP l0 l1 l2 = none → ∀ t d H', Same H H' → H' t = some (.tup [.str "told", .ref d]) → Ar H' d (mrgP l0 l1 l2) → Q (.ref t) H') ∧
  ∀ q, clashP l0 l1 l2 = some q → ∀ t H', Same H H' → H' t = some (.tup [.str "refused", .int q]) → Q (.ref t) H'
theorem ok_by_positions (F : FnP K "_law_by_positions" "_law_by_positions" s_by_positions f fd) (B : BT mg) : FnOk P w K mg base CX0 1 f fd ["_law_three"] (sp_by_positions K) := by
  refine okN F sc_by_positions (fun vs H Q E h => ?_) (fun cdv A outer s H vs Q E hr h => ?_)
  · obtain ⟨_, _, _, _, _, _, _, rfl, _⟩ := h
    rfl
  obtain ⟨a, x, y, z, l0, l1, l2, rfl, h0, hx, hy, hz, n0, n1, n2, hl, hQ1, hQ2⟩ := h
  have hu := hu_of hr
  refine ⟨_, pss_cons (ps_set (i := 1) sc_by_positions.nd rfl (.inr rfl) (pe_lst pa_nil))
    (pss_cons (ps_for PassesOwn.never rfl (pi_list (pv 0)) (pg_name (i := 2) sc_by_positions.nd rfl (Or.inl rfl))
     (pss_one (ps_set (i := 1) sc_by_positions.nd rfl (.inr rfl) (pe_op op_cat (pv 1) (pe_lock (pe_lc (own := [("_law_position", 4)]) (g := gName 4) rfl sc_by_positions.nd (pi_keys (pv 2)) (blkOk_by (own := [("_law_position", 4)]) (N := ["_law_three", "_law_keys", "_law_arranged_here", "_law_merged", "_law_position", "_law_before", "_law_ours", "_law_theirs", "_law_key"]) (sc := defScope s_by_positions) (by decide +kernel)) (fun _ _ _ _ _ => (pg_name (i := 4) sc_by_positions.nd rfl (Or.inl rfl))) (fun _ _ _ _ _ => (pts_one (pt_cmpR (opNotIn K) (pv 4) (pv 1) (by rfl)))) (fun _ _ _ _ _ => (pv 4))))))))
    (pss_cons (ps_set (i := 3) sc_by_positions.nd rfl (.inl rfl) pe_dnewK)
    (pss_cons (ps_for PassesOwn.never rfl (pi_list (pe_callB cr_sortedI (by rfl) B.sorted (by decide +kernel) (pa_cons (pe_lc (own := [("_law_key", 8)]) (g := gName 8) (tt := tYes) rfl sc_by_positions.nd (pi_list (pv 1)) (blkOk_by (own := [("_law_key", 8)]) (N := ["_law_three", "_law_keys", "_law_arranged_here", "_law_merged", "_law_position", "_law_before", "_law_ours", "_law_theirs", "_law_key"]) (sc := defScope s_by_positions) (by decide +kernel)) (fun _ _ _ _ _ => (pg_name (i := 8) sc_by_positions.nd rfl (Or.inl rfl))) (fun _ _ _ _ _ => pts_nil) (fun _ _ _ _ _ => (pe_callTy call_int1 (by rfl) B.int (by decide +kernel) (pa_cons (pv 8) pa_nil)))) pa_nil))) (pg_name (i := 4) sc_by_positions.nd rfl (Or.inl rfl))
     (pss_cons (ps_set (i := 5) sc_by_positions.nd rfl (.inl rfl) (pe_dget1 hu (pe_ix ix_list (pv 0) pe_int (fun _ _ => rfl)) (pv 4) ⟨rfl, rfl, rfl, rfl⟩))
     (pss_cons (ps_set (i := 6) sc_by_positions.nd rfl (.inl rfl) (pe_dget1 hu (pe_ix ix_list (pv 0) pe_int (fun _ _ => rfl)) (pv 4) ⟨rfl, rfl, rfl, rfl⟩))
     (pss_cons (ps_set (i := 7) sc_by_positions.nd rfl (.inl rfl) (pe_dget1 hu (pe_ix ix_list (pv 0) pe_int (fun _ _ => rfl)) (pv 4) ⟨rfl, rfl, rfl, rfl⟩))
     (pss_cons (ps_if (PW.pt (pw_and (pt_cmpR (op_neD hr.units) (pv 6) (pv 7) (nomark _)) (pw_and (pt_cmpR (op_neD hr.units) (pv 6) (pv 5) (nomark _)) (pw_and1 (pt_cmpR (op_neD hr.units) (pv 7) (pv 5) (nomark _))))))
      (pss_one (ps_ret (pe_tup (pa_cons pe_str (pa_cons (pv 4) pa_nil)))))
      pss_nil)
     (C8.pss_cut (ps_if (pt_cmpR (op_eqD hr.units) (pv 6) (pv 5) (nomark _))
      (pss_one (ps_set (i := 6) sc_by_positions.nd rfl (.inl rfl) (pv 7)))
      pss_nil)
     (pss_one (ps_if (pt_cmp (pc_notN (pv 6)))
      (pss_one (ps_dput hu (pv 3) (pv 4) (pv 6) rfl))
      pss_nil))))))))
    (pss_one (ps_ret (pe_tup (pa_cons pe_str (pa_cons (pv 3) pa_nil)))))))), ?_⟩
  refine ⟨szr, fun k0 nk0 => ?_⟩
  have sk := same_upd (o := .lst []) nk0
  refine ⟨_, rfl, a, rfl, ⟨_, SqL.of (sk _ _ h0)⟩, ?_⟩
  let three : List Arr := [l0, l1, l2]
  have dict : ∀ (i : Nat) (v : V), ([V.ref x, V.ref y, V.ref z] : List V)[i]? = some v → ∃ (t : Addr) (l : Arr), v = .ref t ∧ three[i]? = some l ∧ Ar H t l ∧ (l.map (·.1)).Nodup ∧ l.length < 64 := by
    intro i v h
    match i, h with
    | 0, h => cases h; exact ⟨x, l0, rfl, rfl, hx, n0, by omega⟩
    | 1, h => cases h; exact ⟨y, l1, rfl, rfl, hy, n1, by omega⟩
    | 2, h => cases h; exact ⟨z, l2, rfl, rfl, hz, n2, by omega⟩
    | m + 3, h => simp at h
  refine for_it (walk_list (xs := [V.ref x, V.ref y, V.ref z])) (fun i σ H' => ∃ q ks u, σ = [some (.ref a), some (.ref q), u, none, none, none, none, none, none] ∧ Ls H' q ks ∧ ks.Nodup ∧ (∀ k, k ∈ ks ↔ k ∈ (three.take i).flatMap fun l => l.map (·.1)) ∧ ks.length ≤ 64 * i ∧ Same H H') ⟨k0, [], _, rfl, upd_same, .nil, fun k => by simp, by simp, sk⟩ (fun i σ H' _ p => by obtain ⟨_, _, _, _, _, _, _, _, s⟩ := p; exact s.seq (SqL.of h0)) ?_ ?_
  · rintro i v σ H1 H2 hi ⟨q, ks, u, rfl, hks, nd, hm, hkl, hs⟩ ⟨rfl, hv⟩
    obtain ⟨t, l, rfl, hl3, har, ndl, ll⟩ := dict i v hv
    obtain ⟨es, he, hep⟩ := har.same hs
    have hel : es.length = l.length := Paired.length hep
    have hi3 : i < 3 := hi
    refine ⟨_, rfl, t, _, he, True.intro, fun od => ?_⟩
    refine ⟨_, rfl, t, od, rfl, .inl ⟨es, upd_same, fun D nD => ?_⟩⟩
    have nDt : D ≠ t := fun e => by rw [e, upd_same] at nD; cases nD
    have nD0 : H2 D = none := by rw [upd_ne nDt] at nD; exact nD
    have nqt : q ≠ t := fun e => by rw [e] at hks; cases (show some _ = some _ from hks.symm.trans he)
    have hq : (upd H2 t (.frz od (.dK es))) q = some (.lst (ks.map V.int)) := by rw [upd_ne nqt]; exact hks
    refine lc_it walk_keys (fun j H' => Ls H' D (((l.map (·.1)).take j).filter fun k => decide (k ∉ ks)) ∧ Same (upd H2 t (.frz od (.dK es))) H') ⟨upd_same, same_upd nD⟩ (fun j H' _ p => p.2 _ _ upd_same) ?_ ?_
    · rintro j v H3 H4 hj ⟨h3, hs3⟩ ⟨rfl, k, w1, hk, rfl⟩
      obtain ⟨e, he1, r1, _⟩ := paired_at hep hk
      have r1' : k = Sum.inl e.1 := r1
      subst r1'
      have he2 : (l.map (·.1))[j]? = some e.1 := by rw [List.getElem?_map, he1]; rfl
      refine ⟨rfl, ?_⟩
      refine ⟨_, rfl, _, rfl, q, _, rfl, .inl (SqL.of (hs3 _ _ hq)), rfl, all_flat ks, _, rfl, ?_⟩
      show if (!inV (V.int e.1) (ks.map V.int)) = true then _ else _
      rw [inV_int]
      have fl : (((l.map (·.1)).take j).filter fun k => decide (k ∉ ks)).length < 100 := by
        have := List.length_filter_le (fun k => decide (k ∉ ks)) ((l.map (·.1)).take j)
        simp only [List.length_take, List.length_map] at this
        omega
      refine ite2 (fun c => ?_) (fun c => ?_)
      · have c' : e.1 ∉ ks := by simpa using c
        refine ⟨_, rfl, _, h3, szl (by rw [List.length_map]; omega), ?_, same_put hs3 nD⟩
        rw [take_snoc he2, List.filter_append, Ls, upd_same]
        simp [c', kV]
      · have c' : e.1 ∈ ks := by simpa using c
        refine ⟨?_, hs3⟩
        rw [take_snoc he2, List.filter_append]
        simpa [c'] using h3
    · rintro H3 ⟨h3, hs3⟩
      rw [hel, ← List.length_map (f := (·.1)) (as := l), List.take_length] at h3
      have sU := same_unlock he hs3
      refine ⟨hs3 _ _ upd_same, ?_⟩
      have h3' : Ls (upd H3 t (.dK es)) D ((l.map (·.1)).filter fun k => decide (k ∉ ks)) := by rw [Ls, upd_ne nDt]; exact h3
      have hfl : ((l.map (·.1)).filter fun k => decide (k ∉ ks)).length < 64 := by
        have := List.length_filter_le (fun k => decide (k ∉ ks)) (l.map (·.1))
        simp only [List.length_map] at this
        omega
      refine ⟨q, D, _, _, rfl, rfl, sU _ _ hks, h3', by rw [List.length_map, List.length_map]; exact sz (by omega), fun p np => ?_⟩
      have s5 := same_upd (o := .lst (ks.map V.int ++ ((l.map (·.1)).filter fun k => decide (k ∉ ks)).map V.int)) np
      refine ⟨p, ks ++ (l.map (·.1)).filter fun k => decide (k ∉ ks), _, rfl, by rw [Ls, upd_same, List.map_append], ?_, fun k => ?_, ?_, (hs.trans sU).trans s5⟩
      · rw [List.nodup_append]
        refine ⟨nd, ndl.filter _, fun a ha b hb e => ?_⟩
        have := (List.mem_filter.mp hb).2
        rw [decide_eq_true_eq] at this
        exact this (e ▸ ha)
      · rw [take_snoc hl3, List.flatMap_append, List.mem_append, List.mem_append, hm k, List.flatMap_singleton, List.mem_filter]
        constructor
        · rintro (h | ⟨h, _⟩)
          · exact .inl h
          · exact .inr h
        · rintro (h | h)
          · exact .inl h
          · by_cases c : k ∈ ks
            · exact .inl ((hm k).mp c)
            · exact .inr ⟨h, decide_eq_true c⟩
      · rw [List.length_append]
        omega
  · rintro σ H1 ⟨q, ks, u, rfl, hks, nd, hm, hkl, hs⟩
    have hm' : ∀ k, k ∈ ks ↔ k ∈ l0.map (·.1) ++ (l1.map (·.1) ++ l2.map (·.1)) := by
      intro k
      rw [hm k]
      show k ∈ ([l0, l1, l2] : List Arr).flatMap (fun l => l.map (·.1)) ↔ _
      simp
    have hkl' : ks.length ≤ 192 := hkl
    intro M nM
    have sM := same_upd (o := .dK []) nM
    refine ⟨_, rfl, _, rfl, ⟨_, SqL.of (sM _ _ hks)⟩, fun D nD => ?_⟩
    have hMM : (upd H1 M (.dK [])) M = some (.dK []) := upd_same
    have nM0 : H M = none := hs.free nM
    generalize upd H1 M (.dK []) = H2 at sM nD hMM
    refine lc_it (walk_list (xs := ks.map V.int)) (fun i H' => Ls H' D (ks.take i) ∧ Same H2 H') ⟨upd_same, same_upd nD⟩ (fun i H' _ p => p.2.seq (SqL.of (sM _ _ hks))) ?_ ?_
    · rintro i v H3 H4 hi ⟨h3, hs3⟩ ⟨rfl, hv⟩
      rw [List.getElem?_map] at hv
      obtain ⟨k, hk, rfl⟩ := Option.map_eq_some_iff.mp hv
      refine ⟨rfl, yes_go (iteT ?_)⟩
      refine ⟨_, rfl, .inl ⟨_, rfl, _, h3, szl (by rw [List.length_map, List.length_take]; omega), ?_, same_put hs3 nD⟩⟩
      rw [take_snoc hk, Ls, upd_same, List.map_append]
      rfl
    · rintro H3 ⟨h3, hs3⟩
      rw [List.length_map, List.take_length] at h3
      refine ⟨D, ks, rfl, h3.sq, fun ns' p hp hpw np => ?_⟩
      have ek : ns' = keys3 l0 l1 l2 := srt_eq (pw_lt hpw (hp.nodup_iff.mpr nd)) fun k => by rw [hp.mem_iff, hm']
      subst ek
      have s5 := same_upd (o := .lst ((keys3 l0 l1 l2).map V.int)) np
      have hM5 := s5 _ _ (hs3 _ _ hMM)
      have sAll := ((hs.trans sM).trans hs3).trans s5
      have hL5 : Ls (upd H3 p (.lst ((keys3 l0 l1 l2).map V.int))) p (keys3 l0 l1 l2) := upd_same
      generalize upd H3 p (.lst ((keys3 l0 l1 l2).map V.int)) = H5 at hM5 sAll hL5
      obtain ⟨e0, he0, hp0⟩ := hx
      obtain ⟨e1, he1, hp1⟩ := hy
      obtain ⟨e2, he2, hp2⟩ := hz
      have a0 : atI [V.ref x, V.ref y, V.ref z] 0 = some (.ref x) := atI_nat (j := 0) rfl
      have a1 : atI [V.ref x, V.ref y, V.ref z] 1 = some (.ref y) := atI_nat (j := 1) rfl
      have a2 : atI [V.ref x, V.ref y, V.ref z] 2 = some (.ref z) := atI_nat (j := 2) rfl
      refine ⟨p, rfl, ⟨_, hL5.sq⟩, ?_⟩
      refine for_it (walk_list (xs := (keys3 l0 l1 l2).map V.int)) (fun i σ H' => (∃ u2 u4 u5 u6 u7, σ = [some (.ref a), some (.ref q), u2, some (.ref M), u4, u5, u6, u7, none]) ∧ Ar H' M (((keys3 l0 l1 l2).take i).filterMap (putP l0 l1 l2)) ∧ Same H H' ∧ Ls H' p (keys3 l0 l1 l2) ∧
        ∀ j q, j < i → (keys3 l0 l1 l2)[j]? = some q → (cho3 l0 l1 l2 q).isNone = false) ⟨⟨_, _, _, _, _, rfl⟩, ⟨_, hM5, .nil⟩, sAll, hL5, fun j q h => absurd h (Nat.not_lt_zero j)⟩ (fun i σ H' _ p => p.2.2.2.1.sq) ?_ ?_
      · rintro i v σ H6 H7 hi ⟨⟨u2, u4, u5, u6, u7, rfl⟩, ⟨zs, hz, hzp⟩, hs7, hp7, hno⟩ ⟨rfl, hv⟩
        rw [List.getElem?_map] at hv
        obtain ⟨k, hk, rfl⟩ := Option.map_eq_some_iff.mp hv
        have g0 := DGet.k (k := .inl k) (hs7 _ _ he0)
        have g1 := DGet.k (k := .inl k) (hs7 _ _ he1)
        have g2 := DGet.k (k := .inl k) (hs7 _ _ he2)
        have v0 := (entV_of (ent_val hp0 k)).same hs7
        have v1 := (entV_of (ent_val hp1 k)).same hs7
        have v2 := (entV_of (ent_val hp2 k)).same hs7
        refine ⟨_, rfl, a, _, _, _, rfl, rfl, SqL.of (hs7 _ _ h0), a0, x, rfl, .inl ⟨_, .inl (hs7 _ _ he0)⟩, _, rfl, _, g0, ?_⟩
        refine ⟨_, rfl, a, _, _, _, rfl, rfl, SqL.of (hs7 _ _ h0), a1, y, rfl, .inl ⟨_, .inl (hs7 _ _ he1)⟩, _, rfl, _, g1, ?_⟩
        refine ⟨_, rfl, a, _, _, _, rfl, rfl, SqL.of (hs7 _ _ h0), a2, z, rfl, .inl ⟨_, .inl (hs7 _ _ he2)⟩, _, rfl, _, g2, ?_⟩
        generalize (valV e0 (Sum.inl k)).getD V.non = w0 at v0
        generalize (valV e1 (Sum.inl k)).getD V.non = w1 at v1
        generalize (valV e2 (Sum.inl k)).getD V.non = w2 at v2
        have ts := take_snoc hk
        have gn : get (((keys3 l0 l1 l2).take i).filterMap (putP l0 l1 l2)) k = none := get_map_none (not_mem_take (pw_srt _) hk)
        have szk : zs.length < 100 := by
          rw [Paired.length hzp]
          have b1 := List.length_filterMap_le (putP l0 l1 l2) ((keys3 l0 l1 l2).take i)
          have b2 := len_srt (l0.map (·.1) ++ (l1.map (·.1) ++ l2.map (·.1)))
          rw [List.length_take] at b1
          simp at b2
          have b3 : (keys3 l0 l1 l2).length ≤ l0.length + (l1.length + l2.length) := b2
          omega
        -- the way on when nothing clashes
        have fin : ∀ (hc : ¬ (get l1 k ≠ get l2 k ∧ get l1 k ≠ get l0 k ∧ get l2 k ≠ get l0 k)) {w6 : V} {u2 u5 u7 : Option V}, EntV H7 w6 (if get l1 k = get l0 k then get l2 k else get l1 k) →
            (w6 = V.non → (fun (σ : L2.St) (H' : Hp) => (∃ u2 u4 u5 u6 u7, σ = [some (V.ref a), some (V.ref q), u2, some (V.ref M), u4, u5, u6, u7, none]) ∧ Ar H' M (((keys3 l0 l1 l2).take (i + 1)).filterMap (putP l0 l1 l2)) ∧ Same H H' ∧ Ls H' p (keys3 l0 l1 l2) ∧ ∀ j q, j < i + 1 → (keys3 l0 l1 l2)[j]? = some q → (cho3 l0 l1 l2 q).isNone = false) [some (.ref a), some (.ref q), u2, some (.ref M), some (.int k), u5, some w6, u7, none] H7) ∧ (w6 ≠ V.non → (fun (σ : L2.St) (H' : Hp) => (∃ u2 u4 u5 u6 u7, σ = [some (V.ref a), some (V.ref q), u2, some (V.ref M), u4, u5, u6, u7, none]) ∧ Ar H' M (((keys3 l0 l1 l2).take (i + 1)).filterMap (putP l0 l1 l2)) ∧ Same H H' ∧ Ls H' p (keys3 l0 l1 l2) ∧ ∀ j q, j < i + 1 → (keys3 l0 l1 l2)[j]? = some q → (cho3 l0 l1 l2 q).isNone = false) [some (.ref a), some (.ref q), u2, some (.ref M), some (.int k), u5, some w6, u7, none] (upd H7 M (.dK (putK zs (.inl k) w6)))) := by
          intro hc w6 u2 u5 u7 hw
          have ec : cho3 l0 l1 l2 k = some (if get l1 k = get l0 k then get l2 k else get l1 k) := cho_some hc
          have hno' : ∀ j r, j < i + 1 → (keys3 l0 l1 l2)[j]? = some r → (cho3 l0 l1 l2 r).isNone = false := by
            intro j r hj hr
            by_cases e : j = i
            · subst e
              rw [hk] at hr
              cases hr
              rw [ec]
              rfl
            · exact hno j r (by omega) hr
          have pe : putP l0 l1 l2 k = (if get l1 k = get l0 k then get l2 k else get l1 k).map fun e => (k, e) := by unfold putP; rw [ec]; rfl
          generalize (if get l1 k = get l0 k then get l2 k else get l1 k) = ch at hw pe
          refine ⟨fun e => ⟨⟨_, _, _, _, _, rfl⟩, ?_, hs7, hp7, hno'⟩, fun e => ⟨⟨_, _, _, _, _, rfl⟩, ?_, same_put hs7 nM0, ?_, hno'⟩⟩
          · have z := hw.isNon
            rw [decide_eq_true e] at z
            cases ch with
            | some _ => cases z
            | none =>
              rw [ts, filterMap_snoc, pe]
              simp only [Option.map_none, Option.toList_none, List.append_nil]
              exact ⟨zs, hz, hzp⟩
          · cases ch with
            | none => exact absurd hw e
            | some en =>
              obtain ⟨t, rfl, ht⟩ := (show Mk2 H7 w6 en from hw)
              rw [ts, filterMap_snoc, pe]
              exact Ar.add hz hzp gn ht
          · rw [Ls, upd_ne (fun e => by rw [e] at hp7; cases (show some _ = some _ from hz.symm.trans hp7))]
            exact hp7
        refine ⟨_, rfl, _, rfl, _, _, v1.dp, v2.dp, entD_shaped _, entD_shaped _, _, rfl, ?_⟩
        rw [entD_eqv]
        refine ite2 (fun c1 => ?_) (fun c1 => iteF ?_)
        · have c1' : get l1 k ≠ get l2 k := by simpa using c1
          refine ⟨_, rfl, _, rfl, _, _, v1.dp, v0.dp, entD_shaped _, entD_shaped _, _, rfl, ?_⟩
          rw [entD_eqv]
          refine ite2 (fun c2 => ?_) (fun c2 => iteF ?_)
          · have c2' : get l1 k ≠ get l0 k := by simpa using c2
            refine ⟨_, rfl, _, rfl, _, _, v2.dp, v0.dp, entD_shaped _, entD_shaped _, _, rfl, ?_⟩
            rw [entD_eqv]
            refine ite2 (fun c3 => ?_) (fun c3 => ?_)
            · have c3' : get l2 k ≠ get l0 k := by simpa using c3
              have ec : cho3 l0 l1 l2 k = none := cho_none c1' c2' c3'
              refine ⟨_, rfl, szr, fun t nt => ?_⟩
              exact hQ2 k (find_at (i := i) hno hk (by rw [ec]; rfl)) t _ (hs7.trans (same_upd nt)) upd_same
            · have c3' : get l2 k = get l0 k := by simpa using c3
              have hc : ¬ (get l1 k ≠ get l2 k ∧ get l1 k ≠ get l0 k ∧ get l2 k ≠ get l0 k) := fun h => h.2.2 c3'
              refine ⟨fun σ' H' => H' = H7 ∧ ∃ w6, EntV H7 w6 (if get l1 k = get l0 k then get l2 k else get l1 k) ∧ σ' = [some (.ref a), some (.ref q), u2, some (.ref M), some (.int k), some w0, some w6, some w2, none], ?_, ?_⟩
              · refine ⟨_, rfl, _, rfl, _, _, v1.dp, v0.dp, entD_shaped _, entD_shaped _, _, rfl, ?_⟩
                rw [entD_eqv]
                refine ite2 (fun d => ?_) (fun d => ?_)
                · exact ⟨_, rfl, rfl, w2, by rw [if_pos (of_decide_eq_true d)]; exact v2, rfl⟩
                · exact ⟨rfl, w1, by rw [if_neg (fun e => d (decide_eq_true e))]; exact v1, rfl⟩
              · rintro σ' H' ⟨rfl, w6, hw6, rfl⟩
                refine ⟨_, rfl, _, rfl, ?_⟩
                obtain ⟨f1, f2⟩ := fin hc (u2 := u2) (u5 := some w0) (u7 := some w2) hw6
                by_cases e : w6 = V.non
                · rw [decide_eq_true e]
                  exact iteF (f1 e)
                · rw [decide_eq_false e]
                  exact iteT ⟨_, rfl, _, rfl, _, rfl, M, _, rfl, DPut.k (k := .inl k) hz (szl (by omega)), f2 e⟩
          · have c2' : get l1 k = get l0 k := by simpa using c2
            have hc : ¬ (get l1 k ≠ get l2 k ∧ get l1 k ≠ get l0 k ∧ get l2 k ≠ get l0 k) := fun h => h.2.1 c2'
            refine ⟨fun σ' H' => H' = H7 ∧ ∃ w6, EntV H7 w6 (if get l1 k = get l0 k then get l2 k else get l1 k) ∧ σ' = [some (.ref a), some (.ref q), u2, some (.ref M), some (.int k), some w0, some w6, some w2, none], ?_, ?_⟩
            · refine ⟨_, rfl, _, rfl, _, _, v1.dp, v0.dp, entD_shaped _, entD_shaped _, _, rfl, ?_⟩
              rw [entD_eqv]
              refine ite2 (fun d => ?_) (fun d => ?_)
              · exact ⟨_, rfl, rfl, w2, by rw [if_pos (of_decide_eq_true d)]; exact v2, rfl⟩
              · exact ⟨rfl, w1, by rw [if_neg (fun e => d (decide_eq_true e))]; exact v1, rfl⟩
            · rintro σ' H' ⟨rfl, w6, hw6, rfl⟩
              refine ⟨_, rfl, _, rfl, ?_⟩
              obtain ⟨f1, f2⟩ := fin hc (u2 := u2) (u5 := some w0) (u7 := some w2) hw6
              by_cases e : w6 = V.non
              · rw [decide_eq_true e]
                exact iteF (f1 e)
              · rw [decide_eq_false e]
                exact iteT ⟨_, rfl, _, rfl, _, rfl, M, _, rfl, DPut.k (k := .inl k) hz (szl (by omega)), f2 e⟩
        · have c1' : get l1 k = get l2 k := by simpa using c1
          have hc : ¬ (get l1 k ≠ get l2 k ∧ get l1 k ≠ get l0 k ∧ get l2 k ≠ get l0 k) := fun h => h.1 c1'
          refine ⟨fun σ' H' => H' = H7 ∧ ∃ w6, EntV H7 w6 (if get l1 k = get l0 k then get l2 k else get l1 k) ∧ σ' = [some (.ref a), some (.ref q), u2, some (.ref M), some (.int k), some w0, some w6, some w2, none], ?_, ?_⟩
          · refine ⟨_, rfl, _, rfl, _, _, v1.dp, v0.dp, entD_shaped _, entD_shaped _, _, rfl, ?_⟩
            rw [entD_eqv]
            refine ite2 (fun d => ?_) (fun d => ?_)
            · exact ⟨_, rfl, rfl, w2, by rw [if_pos (of_decide_eq_true d)]; exact v2, rfl⟩
            · exact ⟨rfl, w1, by rw [if_neg (fun e => d (decide_eq_true e))]; exact v1, rfl⟩
          · rintro σ' H' ⟨rfl, w6, hw6, rfl⟩
            refine ⟨_, rfl, _, rfl, ?_⟩
            obtain ⟨f1, f2⟩ := fin hc (u2 := u2) (u5 := some w0) (u7 := some w2) hw6
            by_cases e : w6 = V.non
            · rw [decide_eq_true e]
              exact iteF (f1 e)
            · rw [decide_eq_false e]
              exact iteT ⟨_, rfl, _, rfl, _, rfl, M, _, rfl, DPut.k (k := .inl k) hz (szl (by omega)), f2 e⟩
      · rintro σ H6 ⟨⟨u2, u4, u5, u6, u7, rfl⟩, ha, hs7, hp7, hno⟩
        have e : ((keys3 l0 l1 l2).map V.int).length = (keys3 l0 l1 l2).length := by simp
        rw [e] at ha hno
        rw [List.take_length] at ha
        refine ⟨_, rfl, szr, fun t nt => ?_⟩
        have s8 := same_upd (o := .tup [V.str "told", V.ref M]) nt
        exact hQ1 (find_no fun j y hj => hno j y (List.getElem?_eq_some_iff.mp hj).1 hj) t M _ (hs7.trans s8) upd_same (ha.same s8)
end
end K80
end
section
set_option maxHeartbeats 4000000
namespace K80
open PySem PySem.Spec PyProof.Rows L2 Inf
def mism (r : Int × Int) : Bool := decide (decide (0 < r.1) ≠ decide (0 < r.2))
def fbW (rows : Std) : Option Bar := ((List.range (rows.length - 1)).find? fun j => mism (row rows (1 + j))).map fun j => ((2 * ((1 + j : Nat) : Int), (row rows (1 + j)).1), (2 * ((1 + j : Nat) : Int) + 1, (row rows (1 + j)).2))
def inn (rows : Std) (i : Nat) : Option Nat := (List.range (rows.length - 1 - i)).find? fun m => decide (0 < (row rows i).1 ∧ (row rows (i + 1 + m)).1 = (row rows i).1)
def fbA (rows : Std) : Option Bar := ((List.range (rows.length - 1)).find? fun j => (inn rows (1 + j)).isSome).bind fun j => (inn rows (1 + j)).map fun m => ((2 * ((1 + j : Nat) : Int), (row rows (1 + j)).1), (2 * ((1 + j + 1 + m : Nat) : Int), (row rows (1 + j)).1))
def FB (rows : Std) (k : Str) (br : Bar) : Prop := (k = "whole" ∧ fbW rows = some br) ∨ (k = "apart" ∧ fbA rows = some br)
theorem range_get {n i : Nat} (h : i < n) : (List.range n)[i]? = some i := by simp [h]
theorem decNeB {a b : Bool} : (!decide (V.bl a = V.bl b)) = decide (a ≠ b) := by
  cases a <;> cases b <;> rfl
section
variable {P : Program} {w : World} {K : PySem.W.Frag} {mg : Str → Option Value} {base : Heap} {f : Addr} {fd : FuncData}
/-! ### _law_first_bar -/
def sp_first_bar (K : PySem.W.Frag) : Sp := fun vs H Q _ => ∃ (a : Addr) (rows : Std) (k : Str) (br : Bar), vs = [.ref a, .str k] ∧ St H a rows ∧ 0 < rows.length ∧ rows.length ≤ 100 ∧ FB rows k br ∧ ∀ y H', Same H H' → Br H' y br → Q y H'
theorem ok_first_bar (F : FnP K "_law_first_bar" "_law_first_bar" s_first_bar f fd) (B : BT mg) : FnOk P w K mg base CX0 1 f fd ["_law_stand", "_law_key"] (sp_first_bar K) := by
  refine okN F sc_first_bar (fun vs H Q E h => ?_) (fun cdv A outer s H vs Q E hr h => ?_)
  · obtain ⟨_, _, _, _, rfl, _⟩ := h
    rfl
  obtain ⟨a, rows, k, br, rfl, hst, h0, hl, hfb, hQ⟩ := h
  refine ⟨_, pss_cons (ps_for PassesOwn.never rfl (pi_range2 rfl B.range (pa_cons pe_int (pa_cons (pe_callB call_len_seq (by rfl) B.len (by decide +kernel) (pa_cons (pv 0) pa_nil)) pa_nil))) (pg_name (i := 2) sc_first_bar.nd rfl (Or.inl rfl))
     (pss_cons (ps_set (i := 3) sc_first_bar.nd rfl (.inl rfl) (pe_ix ix_list (pv 0) (pv 2) (fun _ _ => rfl)))
     (pss_cons (ps_if (PW.pt (pw_and (pt_cmpR op_eq (pv 1) pe_str (nomark _)) (pw_and1 (pt_cmpR op_ne (pe_cmpR op_gt (pe_ix ix_list (pv 3) pe_int (fun _ _ => rfl)) pe_int (nomark _)) (pe_cmpR op_gt (pe_ix ix_list (pv 3) pe_int (fun _ _ => rfl)) pe_int (nomark _)) (nomark _)))))
      (pss_one (ps_ret (pe_tup (pa_cons (pe_tup (pa_cons (pe_op op_mul pe_int (pv 2)) (pa_cons (pe_ix ix_list (pv 3) pe_int (fun _ _ => rfl)) pa_nil))) (pa_cons (pe_tup (pa_cons (pe_op op_add (pe_op op_mul pe_int (pv 2)) pe_int) (pa_cons (pe_ix ix_list (pv 3) pe_int (fun _ _ => rfl)) pa_nil))) pa_nil)))))
      pss_nil)
     (pss_one (ps_for PassesOwn.never rfl (pi_range2 rfl B.range (pa_cons (pe_op op_add (pv 2) pe_int) (pa_cons (pe_callB call_len_seq (by rfl) B.len (by decide +kernel) (pa_cons (pv 0) pa_nil)) pa_nil))) (pg_name (i := 4) sc_first_bar.nd rfl (Or.inl rfl))
      (pss_one (ps_if (PW.pt (pw_and (pt_cmpR op_eq (pv 1) pe_str (nomark _)) (pw_and (pt_cmpR op_gt (pe_ix ix_list (pv 3) pe_int (fun _ _ => rfl)) pe_int (nomark _)) (pw_and1 (pt_cmpR op_eq (pe_ix ix_list (pe_ix ix_list (pv 0) (pv 4) (fun _ _ => rfl)) pe_int (fun _ _ => rfl)) (pe_ix ix_list (pv 3) pe_int (fun _ _ => rfl)) (nomark _))))))
       (pss_one (ps_ret (pe_tup (pa_cons (pe_tup (pa_cons (pe_op op_mul pe_int (pv 2)) (pa_cons (pe_ix ix_list (pv 3) pe_int (fun _ _ => rfl)) pa_nil))) (pa_cons (pe_tup (pa_cons (pe_op op_mul pe_int (pv 4)) (pa_cons (pe_ix ix_list (pv 3) pe_int (fun _ _ => rfl)) pa_nil))) pa_nil)))))
       pss_nil)))))))
    (pss_one (ps_ret (pe_tup pa_nil))), ?_⟩
  obtain ⟨xs, hx, hxl⟩ := hst.len
  refine ⟨_, rfl, a, _, rfl, .inl (SqL.of hx), _, _, rfl, ⟨by decide, by decide, by omega, by omega⟩, ?_⟩
  rw [hxl, show ((rows.length : Int) - 1).toNat = rows.length - 1 from by omega]
  -- a bar is laid
  have lay : ∀ {H1 : Hp} {p q u v : Int} {t : Addr} {ys : List V} {i j : Int}, br = ((p, u), (q, v)) → Same H H1 → ∀ t1, H1 t1 = none → ∀ t2, (upd H1 t1 (.tup [.int p, .int u])) t2 = none → ∀ t3, (upd (upd H1 t1 (.tup [.int p, .int u])) t2 (.tup [.int q, .int v])) t3 = none →
      Q (.ref t3) (upd (upd (upd H1 t1 (.tup [.int p, .int u])) t2 (.tup [.int q, .int v])) t3 (.tup [.ref t1, .ref t2])) := by
    intro H1 p q u v t ys i j e hs t1 nt1 t2 nt2 t3 nt3
    have s1 := same_upd (o := .tup [.int p, .int u]) nt1
    have s2 := same_upd (o := .tup [.int q, .int v]) nt2
    have s3 := same_upd (o := .tup [V.ref t1, V.ref t2]) nt3
    refine hQ _ _ (((hs.trans s1).trans s2).trans s3) ?_
    rw [e]
    exact ⟨t3, _, _, rfl, upd_same, ⟨t1, rfl, s3 _ _ (s2 _ _ upd_same)⟩, ⟨t2, rfl, s3 _ _ upd_same⟩⟩
  rcases hfb with ⟨rfl, hfb⟩ | ⟨rfl, hfb⟩
  · have k1 : decide (V.str "whole" = V.str "whole") = true := by decide
    have k2 : decide (V.str "whole" = V.str "apart") = false := by decide
    refine for_it walk_range (fun i σ H' => (∃ u v z, σ = [some (.ref a), some (.str "whole"), u, v, z]) ∧ H' = H ∧ ∀ j, j < i → mism (row rows (1 + j)) = false) ⟨⟨_, _, _, rfl⟩, rfl, fun j h => absurd h (Nat.not_lt_zero j)⟩ (fun _ _ _ _ _ => True.intro) ?_ ?_
    · rintro i x σ H1 H2 hi ⟨⟨u, v, z, rfl⟩, rfl, hno⟩ ⟨rfl, rfl⟩
      obtain ⟨w0, t0, hw0, e0, ht0⟩ := hst.at (i := 1 + i) (by omega)
      have ei : ((1 : Int) + (i : Nat)) = ((1 + i : Nat) : Int) := by omega
      refine ⟨_, rfl, _, rfl, a, _, _, _, rfl, rfl, SqL.of hw0, (by rw [ei]; exact e0), ?_⟩
      refine ⟨_, rfl, rfl, _, rfl, ?_⟩
      rw [k1]
      refine iteT ?_
      refine ⟨_, rfl, t0, _, _, _, rfl, rfl, SqL.of ht0, at2_0 _, _, _, rfl, rfl, _, rfl, t0, _, _, _, rfl, rfl, SqL.of ht0, at2_1 _, _, _, rfl, rfl, rfl, _, rfl, ?_⟩
      rw [decNeB]
      refine ite2 (fun c => ?_) (fun c => ?_)
      · have c' : mism (row rows (1 + i)) = true := c
        have ef : fbW rows = some ((2 * ((1 + i : Nat) : Int), (row rows (1 + i)).1), (2 * ((1 + i : Nat) : Int) + 1, (row rows (1 + i)).2)) := by
          unfold fbW
          rw [find_at (i := i) (x := i) (fun j y hj hy => ?_) (range_get hi) c']
          · rfl
          · rw [range_get (by omega)] at hy
            cases hy
            exact hno _ hj
        rw [ef] at hfb
        have eb := Option.some.inj hfb
        refine ⟨_, rfl, _, _, rfl, rfl, .inl ⟨by decide, by decide⟩, _, rfl, t0, _, _, _, rfl, rfl, SqL.of ht0, at2_0 _, szr, fun t1 nt1 => ?_⟩
        have s1 := same_upd (o := .tup [V.int (2 * (1 + (i : Int))), V.int (row rows (1 + i)).1]) nt1
        refine ⟨_, rfl, _, _, rfl, rfl, .inl ⟨by decide, by decide⟩, _, _, rfl, rfl, _, rfl, t0, _, _, _, rfl, rfl, SqL.of (s1 _ _ ht0), at2_1 _, szr, fun t2 nt2 => ⟨szr, fun t3 nt3 => ?_⟩⟩
        exact lay (t := t0) (ys := []) (i := 0) (j := 0) (by rw [← eb, ei]) (Same.refl _) t1 nt1 t2 nt2 t3 nt3
      · have c' : mism (row rows (1 + i)) = false := Bool.eq_false_iff.mpr c
        refine ⟨_, rfl, _, _, rfl, rfl, _, rfl, a, _, rfl, .inl (SqL.of hx), _, _, rfl, ⟨by omega, by omega, by omega, by omega⟩, ?_⟩
        refine for_it walk_range (fun m σ H' => (∃ z, σ = [some (.ref a), some (.str "whole"), some (.int (1 + (i : Int))), some (.ref t0), z]) ∧ H' = H2) ⟨⟨_, rfl⟩, rfl⟩ (fun _ _ _ _ _ => True.intro) ?_ ?_
        · rintro m x σ H3 H4 hm ⟨⟨z, rfl⟩, rfl⟩ ⟨rfl, rfl⟩
          refine ⟨_, rfl, rfl, _, rfl, ?_⟩
          rw [k2]
          exact iteF (iteF ⟨⟨_, rfl⟩, rfl⟩)
        · rintro σ H3 ⟨⟨z, rfl⟩, rfl⟩
          refine ⟨⟨_, _, _, rfl⟩, rfl, fun j hj => ?_⟩
          by_cases e : j = i
          · rw [e]; exact c'
          · exact hno j (by omega)
    · rintro σ H1 ⟨_, rfl, hno⟩
      have : fbW rows = none := by
        unfold fbW
        rw [find_no (fun j y hj => ?_)]
        · rfl
        · have := (List.getElem?_eq_some_iff.mp hj).1
          rw [List.length_range] at this
          rw [range_get this] at hj
          cases hj
          exact hno _ this
      rw [this] at hfb
      cases hfb
  · have k1 : decide (V.str "apart" = V.str "whole") = false := by decide
    have k2 : decide (V.str "apart" = V.str "apart") = true := by decide
    refine for_it walk_range (fun i σ H' => (∃ u v z, σ = [some (.ref a), some (.str "apart"), u, v, z]) ∧ H' = H ∧ ∀ j, j < i → (inn rows (1 + j)).isSome = false) ⟨⟨_, _, _, rfl⟩, rfl, fun j h => absurd h (Nat.not_lt_zero j)⟩ (fun _ _ _ _ _ => True.intro) ?_ ?_
    · rintro i x σ H1 H2 hi ⟨⟨u, v, z, rfl⟩, rfl, hno⟩ ⟨rfl, rfl⟩
      obtain ⟨w0, t0, hw0, e0, ht0⟩ := hst.at (i := 1 + i) (by omega)
      have ei : ((1 : Int) + (i : Nat)) = ((1 + i : Nat) : Int) := by omega
      refine ⟨_, rfl, _, rfl, a, _, _, _, rfl, rfl, SqL.of hw0, (by rw [ei]; exact e0), ?_⟩
      refine ⟨_, rfl, rfl, _, rfl, ?_⟩
      rw [k1]
      refine iteF (iteF ?_)
      refine ⟨_, rfl, _, _, rfl, rfl, _, rfl, a, _, rfl, .inl (SqL.of hx), _, _, rfl, ⟨by omega, by omega, by omega, by omega⟩, ?_⟩
      rw [hxl, show ((rows.length : Int) - (1 + (i : Nat) + 1)).toNat = rows.length - 1 - (1 + i) from by omega]
      refine for_it walk_range (fun m σ H' => (∃ z, σ = [some (.ref a), some (.str "apart"), some (.int (1 + (i : Int))), some (.ref t0), z]) ∧ H' = H2 ∧ ∀ q, q < m → ¬ (0 < (row rows (1 + i)).1 ∧ (row rows (1 + i + 1 + q)).1 = (row rows (1 + i)).1)) ⟨⟨_, rfl⟩, rfl, fun j h => absurd h (Nat.not_lt_zero j)⟩ (fun _ _ _ _ _ => True.intro) ?_ ?_
      · rintro m x σ H3 H4 hm ⟨⟨z, rfl⟩, rfl, hn2⟩ ⟨rfl, rfl⟩
        obtain ⟨w1, t1, hw1, e1, ht1⟩ := hst.at (i := 1 + i + 1 + m) (by omega)
        have em : ((1 : Int) + (i : Nat) + 1 + (m : Nat)) = ((1 + i + 1 + m : Nat) : Int) := by omega
        have no : ¬ (0 < (row rows (1 + i)).1 ∧ (row rows (1 + i + 1 + m)).1 = (row rows (1 + i)).1) → ∀ q, q < m + 1 → ¬ (0 < (row rows (1 + i)).1 ∧ (row rows (1 + i + 1 + q)).1 = (row rows (1 + i)).1) := by
          intro h q hq
          by_cases e : q = m
          · rw [e]; exact h
          · exact hn2 q (by omega)
        refine ⟨_, rfl, rfl, _, rfl, ?_⟩
        rw [k2]
        refine iteT ?_
        refine ⟨_, rfl, t0, _, _, _, rfl, rfl, SqL.of ht0, at2_0 _, _, _, rfl, rfl, _, rfl, ?_⟩
        refine ite2 (fun c1 => ?_) (fun c1 => iteF ⟨⟨_, rfl⟩, rfl, no fun h => c1 (decide_eq_true h.1)⟩)
        refine ⟨_, rfl, _, rfl, a, _, _, _, rfl, rfl, SqL.of hw1, (by rw [em]; exact e1), t1, _, _, _, rfl, rfl, SqL.of ht1, at2_0 _, _, rfl, t0, _, _, _, rfl, rfl, SqL.of ht0, at2_0 _, rfl, _, rfl, ?_⟩
        rw [dec_int]
        refine ite2 (fun c2 => ?_) (fun c2 => ⟨⟨_, rfl⟩, rfl, no fun h => c2 (by rw [h.2]; simp)⟩)
        have c1' : 0 < (row rows (1 + i)).1 := of_decide_eq_true c1
        have c2' : (row rows (1 + i + 1 + m)).1 = (row rows (1 + i)).1 := by simpa using c2
        have einn : inn rows (1 + i) = some m := by
          unfold inn
          refine find_at (i := m) (fun j y hj hy => ?_) (range_get hm) (decide_eq_true ⟨c1', c2'⟩)
          rw [range_get (by omega)] at hy
          cases hy
          exact decide_eq_false (hn2 _ hj)
        have ef : fbA rows = some ((2 * ((1 + i : Nat) : Int), (row rows (1 + i)).1), (2 * ((1 + i + 1 + m : Nat) : Int), (row rows (1 + i)).1)) := by
          unfold fbA
          rw [find_at (i := i) (x := i) (fun j y hj hy => ?_) (range_get hi) (by rw [einn]; rfl)]
          · show (inn rows (1 + i)).map _ = _
            rw [einn]
            rfl
          · rw [range_get (by omega)] at hy
            cases hy
            exact hno _ hj
        rw [ef] at hfb
        have eb := Option.some.inj hfb
        refine ⟨_, rfl, _, _, rfl, rfl, .inl ⟨by decide, by decide⟩, _, rfl, t0, _, _, _, rfl, rfl, SqL.of ht0, at2_0 _, szr, fun t1 nt1 => ?_⟩
        have s1 := same_upd (o := .tup [V.int (2 * (1 + (i : Int))), V.int (row rows (1 + i)).1]) nt1
        refine ⟨_, rfl, _, _, rfl, rfl, .inl ⟨by decide, by decide⟩, _, rfl, t0, _, _, _, rfl, rfl, SqL.of (s1 _ _ ht0), at2_0 _, szr, fun t2 nt2 => ⟨szr, fun t3 nt3 => ?_⟩⟩
        exact lay (t := t0) (ys := []) (i := 0) (j := 0) (by rw [← eb, em, ei]) (Same.refl _) t1 nt1 t2 nt2 t3 nt3
      · rintro σ H3 ⟨⟨z, rfl⟩, rfl, hn2⟩
        refine ⟨⟨_, _, _, rfl⟩, rfl, fun j hj => ?_⟩
        by_cases e : j = i
        · rw [e]
          have : inn rows (1 + i) = none := by
            unfold inn
            refine find_no fun j y hj => ?_
            have := (List.getElem?_eq_some_iff.mp hj).1
            rw [List.length_range] at this
            rw [range_get this] at hj
            cases hj
            exact decide_eq_false (hn2 _ this)
          rw [this]
          rfl
        · exact hno j (by omega)
    · rintro σ H1 ⟨_, rfl, hno⟩
      have : fbA rows = none := by
        unfold fbA
        rw [find_no (fun j y hj => ?_)]
        · rfl
        · have := (List.getElem?_eq_some_iff.mp hj).1
          rw [List.length_range] at this
          rw [range_get this] at hj
          cases hj
          exact hno _ this
      rw [this] at hfb
      cases hfb
end
end K80
end
section
set_option maxHeartbeats 4000000
namespace K80
open PySem PySem.Spec PyProof.Rows L2 Inf
theorem mval_none {b o t : Int} (h1 : o ≠ t) (h2 : o ≠ b) (h3 : t ≠ b) : mval b o t = none := by
  unfold mval
  rw [if_neg h1, if_neg h2, if_neg h3]
theorem mval_some {b o t : Int} (h : ¬ (o ≠ t ∧ o ≠ b ∧ t ≠ b)) : mval b o t = some (if o = b then t else o) := by
  unfold mval
  by_cases h1 : o = t
  · rw [if_pos h1]
    subst h1
    split <;> rfl
  · rw [if_neg h1]
    by_cases h2 : o = b
    · rw [if_pos h2, if_pos h2]
    · rw [if_neg h2, if_neg h2]
      by_cases h3 : t = b
      · rw [if_pos h3]
      · exact absurd ⟨h1, h2, h3⟩ h
def sd (p : Int × Int) (s : Nat) : Int := if s = 0 then p.1 else p.2
def mvS (r0 r1 r2 : Std) (q : Nat × Nat) : Option Int := mval (sd (row r0 q.1) q.2) (sd (row r1 q.1) q.2) (sd (row r2 q.1) q.2)
def plc (n : Nat) : List (Nat × Nat) := (List.range n).flatMap fun j => [(1 + j, 0), (1 + j, 1)]
theorem plc_succ (n : Nat) : plc (n + 1) = plc n ++ [(1 + n, 0), (1 + n, 1)] := by
  unfold plc
  rw [List.range_succ, List.flatMap_append, List.flatMap_singleton]
theorem plc_len (n : Nat) : (plc n).length = 2 * n := by
  induction n with
  | zero => rfl
  | succ n ih => rw [plc_succ, List.length_append, ih]; rfl
theorem plc_pre {n m : Nat} (h : m ≤ n) : ∃ r, plc n = plc m ++ r := by
  induction n with
  | zero => exact ⟨[], by rw [show m = 0 from by omega]; simp⟩
  | succ n ih =>
    by_cases e : m = n + 1
    · exact ⟨[], by rw [e]; simp⟩
    · obtain ⟨r, hr⟩ := ih (by omega)
      exact ⟨r ++ [(1 + n, 0), (1 + n, 1)], by rw [plc_succ, hr, List.append_assoc]⟩
theorem plc_get {n i s : Nat} (hi : i < n) (hs : s < 2) : (plc n)[2 * i + s]? = some (1 + i, s) := by
  obtain ⟨r, hr⟩ := plc_pre (m := i + 1) (n := n) hi
  rw [hr, plc_succ, List.append_assoc, List.getElem?_append_right (by rw [plc_len]; omega), plc_len]
  match s, hs with
  | 0, _ => simp
  | 1, _ => simp
def clashS (r0 r1 r2 : Std) : Option (Nat × Nat) := (plc (r0.length - 1)).find? fun q => (mvS r0 r1 r2 q).isNone
def mrow (r0 r1 r2 : Std) (i : Nat) : Int × Int := ((mvS r0 r1 r2 (i, 0)).getD 0, (mvS r0 r1 r2 (i, 1)).getD 0)
def mrgTo (r0 r1 r2 : Std) (n : Nat) : Std := (0, 0) :: (List.range n).map fun j => mrow r0 r1 r2 (1 + j)
def mrgS (r0 r1 r2 : Std) : Std := mrgTo r0 r1 r2 (r0.length - 1)
theorem mrgTo_succ (r0 r1 r2 : Std) (n : Nat) : mrgTo r0 r1 r2 (n + 1) = mrgTo r0 r1 r2 n ++ [mrow r0 r1 r2 (1 + n)] := by
  unfold mrgTo
  rw [List.range_succ, List.map_append]
  rfl
theorem mrgTo_len (r0 r1 r2 : Std) (n : Nat) : (mrgTo r0 r1 r2 n).length = n + 1 := by simp [mrgTo]
theorem srt_two {x y : Int} {l : List Int} (hp : l.Perm [x, y]) (pw : l.Pairwise (· ≤ ·)) (ne : x ≠ y) : l = two x y := by
  refine srt_eq (pw_lt pw (hp.nodup_iff.mpr ?_)) fun k => hp.mem_iff
  simp [ne]
section
variable {P : Program} {w : World} {K : PySem.W.Frag} {mg : Str → Option Value} {base : Heap} {f : Addr} {fd : FuncData}
theorem at2_s (p : Int × Int) {s : Nat} (h : s < 2) : atI [V.int p.1, V.int p.2] (s : Int) = some (.int (sd p s)) := by
  match s, h with
  | 0, _ => exact atI_nat (by simp [sd])
  | 1, _ => exact atI_nat (by simp [sd])
/-! ### _law_by_places -/
def sp_by_places (K : PySem.W.Frag) : Sp := fun vs H Q _ => ∃ (a : Addr) (r0 r1 r2 : Std) (n : Nat), vs = [.ref a] ∧ Th H a r0 r1 r2 ∧ r0.length = n ∧ r1.length = n ∧ r2.length = n ∧ 0 < n ∧ n ≤ 100 ∧
  (clashS r0 r1 r2 = none → brk (mrgS r0 r1 r2) ≠ "" → ∃ br, FB (mrgS r0 r1 r2) (brk (mrgS r0 r1 r2)) br) ∧
  (∀ i s, clashS r0 r1 r2 = some (i, s) → ∀ t l H', Same H H' → H' t = some (.tup [.str "place", .int (2 * (i : Int) + (s : Int)), .ref l]) → Ls H' l (two (sd (row r1 i) s) (sd (row r2 i) s)) → Q (.ref t) H') ∧
  (clashS r0 r1 r2 = none → brk (mrgS r0 r1 r2) = "" → ∀ t d H', Same H H' → H' t = some (.tup [.str "book", .ref d]) → Bk H' d (bookOf (mrgS r0 r1 r2)) → Q (.ref t) H') ∧
  (clashS r0 r1 r2 = none → ∀ br, FB (mrgS r0 r1 r2) (brk (mrgS r0 r1 r2)) br → ∀ t y H', Same H H' → H' t = some (.tup [.str "rule", .str (brk (mrgS r0 r1 r2)), y]) → Br H' y br → Q (.ref t) H')
theorem ok_by_places (F : FnP K "_law_by_places" "_law_by_places" s_by_places f fd) (B : BT mg) (G_broken : Has P w K mg base CX0 1 "_law_broken" (sp_broken K)) (G_book_of : Has P w K mg base CX0 1 "_law_book_of" (sp_book_of K)) (G_first_bar : Has P w K mg base CX0 1 "_law_first_bar" (sp_first_bar K)) :
    FnOk P w K mg base CX0 2 f fd ["_law_three"] (sp_by_places K) := by
  refine okN F sc_by_places (fun vs H Q E h => ?_) (fun cdv A outer s H vs Q E hr h => ?_)
  · obtain ⟨_, _, _, _, _, rfl, _⟩ := h
    rfl
  obtain ⟨a, r0, r1, r2, n, rfl, ⟨x, y, z, h0, hx, hy, hz⟩, l0, l1, l2, hn0, hn, hfb, hQ1, hQ2, hQ3⟩ := h
  refine ⟨_, pss_cons (ps_set (i := 1) sc_by_places.nd rfl (.inl rfl) (pe_lst (pa_cons (pe_lst (pa_cons pe_int (pa_cons pe_int pa_nil))) pa_nil)))
    (pss_cons (ps_for PassesOwn.never rfl (pi_range2 rfl B.range (pa_cons pe_int (pa_cons (pe_callB call_len_seq (by rfl) B.len (by decide +kernel) (pa_cons (pe_ix ix_list (pv 0) pe_int (fun _ _ => rfl)) pa_nil)) pa_nil))) (pg_name (i := 2) sc_by_places.nd rfl (Or.inl rfl))
     (pss_cons (ps_set (i := 3) sc_by_places.nd rfl (.inl rfl) (pe_lst pa_nil))
     (pss_cons (ps_for PassesOwn.never rfl (pi_range1 rfl B.range (pa_cons pe_int pa_nil)) (pg_name (i := 4) sc_by_places.nd rfl (Or.inl rfl))
      (pss_cons (ps_set (i := 5) sc_by_places.nd rfl (.inl rfl) (pe_ix ix_list (pe_ix ix_list (pe_ix ix_list (pv 0) pe_int (fun _ _ => rfl)) (pv 2) (fun _ _ => rfl)) (pv 4) (fun _ _ => rfl)))
      (pss_cons (ps_set (i := 6) sc_by_places.nd rfl (.inl rfl) (pe_ix ix_list (pe_ix ix_list (pe_ix ix_list (pv 0) pe_int (fun _ _ => rfl)) (pv 2) (fun _ _ => rfl)) (pv 4) (fun _ _ => rfl)))
      (pss_cons (ps_set (i := 7) sc_by_places.nd rfl (.inl rfl) (pe_ix ix_list (pe_ix ix_list (pe_ix ix_list (pv 0) pe_int (fun _ _ => rfl)) (pv 2) (fun _ _ => rfl)) (pv 4) (fun _ _ => rfl)))
      (pss_cons (ps_if (PW.pt (pw_and (pt_cmpR op_ne (pv 6) (pv 7) (nomark _)) (pw_and (pt_cmpR op_ne (pv 6) (pv 5) (nomark _)) (pw_and1 (pt_cmpR op_ne (pv 7) (pv 5) (nomark _))))))
       (pss_one (ps_ret (pe_tup (pa_cons pe_str (pa_cons (pe_op op_add (pe_op op_mul pe_int (pv 2)) (pv 4)) (pa_cons (pe_callB cr_sortedI (by rfl) B.sorted (by decide +kernel) (pa_cons (pe_lst (pa_cons (pe_callTy call_int1 (by rfl) B.int (by decide +kernel) (pa_cons (pv 6) pa_nil)) (pa_cons (pe_callTy call_int1 (by rfl) B.int (by decide +kernel) (pa_cons (pv 7) pa_nil)) pa_nil))) pa_nil)) pa_nil))))))
       pss_nil)
      (C8.pss_cut (ps_if (pt_cmpR op_eq (pv 6) (pv 5) (nomark _))
       (pss_one (ps_set (i := 6) sc_by_places.nd rfl (.inl rfl) (pv 7)))
       pss_nil)
      (pss_one (ps_expr (pe_bm PySem.F.plainAttrs_list PySem.F.slot_list_append PySem.F.type_list_append mt_append (pv 3) (pa_cons (pv 6) pa_nil))))))))))
     (pss_one (ps_expr (pe_bm PySem.F.plainAttrs_list PySem.F.slot_list_append PySem.F.type_list_append mt_append (pv 1) (pa_cons (pv 3) pa_nil)))))))
    (pss_cons (ps_set (i := 8) sc_by_places.nd rfl (.inl rfl) (pe_c G_broken hr (pa_cons (pv 1) pa_nil)))
    (pss_cons (ps_if (pt_cmpR op_eq (pv 8) pe_str (nomark _))
     (pss_one (ps_ret (pe_tup (pa_cons pe_str (pa_cons (pe_c G_book_of hr (pa_cons (pv 1) pa_nil)) pa_nil)))))
     pss_nil)
    (pss_one (ps_ret (pe_tup (pa_cons pe_str (pa_cons (pv 8) (pa_cons (pe_c G_first_bar hr (pa_cons (pv 1) (pa_cons (pv 8) pa_nil))) pa_nil))))))))), ?_⟩
  have a0 : atI [V.ref x, V.ref y, V.ref z] 0 = some (.ref x) := atI_nat (j := 0) rfl
  have a1 : atI [V.ref x, V.ref y, V.ref z] 1 = some (.ref y) := atI_nat (j := 1) rfl
  have a2 : atI [V.ref x, V.ref y, V.ref z] 2 = some (.ref z) := atI_nat (j := 2) rfl
  refine ⟨szr, fun q0 nq0 => ⟨szr, fun D nD => ?_⟩⟩
  have s0 := same_upd (o := .lst [V.int 0, V.int 0]) nq0
  have sD := same_upd (o := .lst [V.ref q0]) nD
  have s1 := s0.trans sD
  have nD0 : H D = none := s0.free nD
  have hst0 : St (upd (upd H q0 (.lst [V.int 0, V.int 0])) D (.lst [V.ref q0])) D (mrgTo r0 r1 r2 0) := ⟨[V.ref q0], upd_same, .cons ⟨q0, rfl, sD _ _ upd_same⟩ .nil, by simp⟩
  generalize upd (upd H q0 (.lst [V.int 0, V.int 0])) D (.lst [V.ref q0]) = H0 at s1 hst0
  obtain ⟨ws, hws, hwl⟩ := (hx.same s1).len
  refine ⟨_, rfl, a, _, _, _, rfl, rfl, SqL.of (s1 _ _ h0), a0, x, _, rfl, .inl (SqL.of hws), _, _, rfl, ⟨by decide, by decide, by omega, by omega⟩, ?_⟩
  rw [hwl, l0, show ((n : Int) - 1).toNat = n - 1 from by omega]
  have pn : r0.length - 1 = n - 1 := by rw [l0]
  -- no clash so far
  let noC : Nat → Prop := fun k => ∀ (j : Nat) (q : Nat × Nat), j < k → (plc (n - 1))[j]? = some q → (mvS r0 r1 r2 q).isNone = false
  refine for_it walk_range (fun i σ H' => (∃ u2 u3 u4 u5 u6 u7, σ = [some (.ref a), some (.ref D), u2, u3, u4, u5, u6, u7, none]) ∧ St H' D (mrgTo r0 r1 r2 i) ∧ Same H H' ∧ noC (2 * i)) ⟨⟨_, _, _, _, _, _, rfl⟩, hst0, s1, fun j q h => absurd h (Nat.not_lt_zero j)⟩ (fun _ _ _ _ _ => True.intro) ?_ ?_
  · rintro i v σ H1 H2 hi ⟨⟨u2, u3, u4, u5, u6, u7, rfl⟩, hst, hs, hno⟩ ⟨rfl, rfl⟩
    have ei : ((1 : Int) + (i : Nat)) = ((1 + i : Nat) : Int) := by omega
    refine ⟨szr, fun R nR => ?_⟩
    have sR := same_upd (o := .lst []) nR
    have nR0 : H R = none := hs.free nR
    have hstR := hst.same sR
    have hRR : upd H2 R (.lst []) R = some (.lst []) := upd_same
    have sHR := hs.trans sR
    -- what stood before the row was laid stays
    generalize upd H2 R (.lst []) = H3 at sR hstR hRR sHR
    have ts : (([] : List V)) = [] := rfl
    refine ⟨_, rfl, by decide, by decide, ?_⟩
    refine for_it walk_range (fun s σ H' => (∃ u4 u5 u6 u7, σ = [some (.ref a), some (.ref D), some (.int (1 + (i : Int))), some (.ref R), u4, u5, u6, u7, none]) ∧ Ls H' R (((List.range 2).take s).map fun c => (mvS r0 r1 r2 (1 + i, c)).getD 0) ∧ Same H2 H' ∧ noC (2 * i + s)) ⟨⟨_, _, _, _, rfl⟩, hRR, sR, hno⟩ (fun _ _ _ _ _ => True.intro) ?_ ?_
    · rintro s v σ H4 H5 hsl ⟨⟨u4, u5, u6, u7, rfl⟩, hR, hs5, hnoS⟩ ⟨rfl, rfl⟩
      have hs2 : s < 2 := hsl
      have sA := hs.trans hs5
      obtain ⟨w0, t0, hw0, e0, ht0⟩ := (hx.same sA).at (i := 1 + i) (by omega)
      obtain ⟨w1, t1, hw1, e1, ht1⟩ := (hy.same sA).at (i := 1 + i) (by omega)
      obtain ⟨w2, t2, hw2, e2, ht2⟩ := (hz.same sA).at (i := 1 + i) (by omega)
      have es : ((0 : Int) + (s : Nat)) = (s : Int) := by omega
      refine ⟨_, rfl, a, _, _, _, rfl, rfl, SqL.of (sA _ _ h0), a0, _, rfl, x, _, _, _, rfl, rfl, SqL.of hw0, (by rw [ei]; exact e0), _, rfl, t0, _, _, _, rfl, rfl, SqL.of ht0, (by rw [es]; exact at2_s _ hs2), ?_⟩
      refine ⟨_, rfl, a, _, _, _, rfl, rfl, SqL.of (sA _ _ h0), a1, _, rfl, y, _, _, _, rfl, rfl, SqL.of hw1, (by rw [ei]; exact e1), _, rfl, t1, _, _, _, rfl, rfl, SqL.of ht1, (by rw [es]; exact at2_s _ hs2), ?_⟩
      refine ⟨_, rfl, a, _, _, _, rfl, rfl, SqL.of (sA _ _ h0), a2, _, rfl, z, _, _, _, rfl, rfl, SqL.of hw2, (by rw [ei]; exact e2), _, rfl, t2, _, _, _, rfl, rfl, SqL.of ht2, (by rw [es]; exact at2_s _ hs2), ?_⟩
      have hpl : (plc (n - 1))[2 * i + s]? = some (1 + i, s) := plc_get hi hs2
      have em : mvS r0 r1 r2 (1 + i, s) = mval (sd (row r0 (1 + i)) s) (sd (row r1 (1 + i)) s) (sd (row r2 (1 + i)) s) := rfl
      generalize sd (row r0 (1 + i)) s = vb at em
      generalize hvo : sd (row r1 (1 + i)) s = vo at em
      generalize hvt : sd (row r2 (1 + i)) s = vt at em
      -- the row goes on
      have fin : ∀ (hc : ¬ (vo ≠ vt ∧ vo ≠ vb ∧ vt ≠ vb)), Ls (upd H5 R (.lst ((((List.range 2).take s).map fun c => (mvS r0 r1 r2 (1 + i, c)).getD 0).map V.int ++ [V.int (if vo = vb then vt else vo)]))) R (((List.range 2).take (s + 1)).map fun c => (mvS r0 r1 r2 (1 + i, c)).getD 0) ∧ noC (2 * i + (s + 1)) := by
        intro hc
        rw [mval_some hc] at em
        refine ⟨?_, fun j q hj hq => ?_⟩
        · rw [take_snoc (range_get hs2), Ls, upd_same, List.map_append, List.map_append]
          simp only [List.map_cons, List.map_nil]
          rw [em]
          rfl
        · by_cases e : j = 2 * i + s
          · rw [e, hpl] at hq
            cases hq
            rw [em]
            rfl
          · exact hnoS j q (by omega) hq
      have rl : ((((List.range 2).take s).map fun c => (mvS r0 r1 r2 (1 + i, c)).getD 0).map V.int).length < 100000 := by
        simp
        omega
      refine ⟨_, rfl, _, rfl, rfl, _, rfl, ?_⟩
      rw [decNe]
      refine ite2 (fun c1 => ?_) (fun c1 => iteF ?_)
      · have c1' : vo ≠ vt := of_decide_eq_true c1
        refine ⟨_, rfl, _, rfl, rfl, _, rfl, ?_⟩
        rw [decNe]
        refine ite2 (fun c2 => ?_) (fun c2 => iteF ?_)
        · have c2' : vo ≠ vb := of_decide_eq_true c2
          refine ⟨_, rfl, _, rfl, rfl, _, rfl, ?_⟩
          rw [decNe]
          refine ite2 (fun c3 => ?_) (fun c3 => ?_)
          · have c3' : vt ≠ vb := of_decide_eq_true c3
            rw [mval_none c1' c2' c3'] at em
            have ecl : clashS r0 r1 r2 = some (1 + i, s) := by
              unfold clashS
              rw [pn]
              exact find_at (i := 2 * i + s) hnoS hpl (by rw [em]; rfl)
            refine ⟨_, rfl, _, _, rfl, rfl, .inl ⟨by decide, by decide⟩, _, rfl, _, _, rfl, rfl, ?_⟩
            refine ⟨_, rfl, .inl ⟨_, rfl, _, rfl, .inl ⟨_, rfl, szr, fun p np => ?_⟩⟩⟩
            have s7 := same_upd (o := .lst [V.int vo, V.int vt]) np
            refine ⟨p, [vo, vt], rfl, SqL.of upd_same, fun ns' l hp hpw nl => ?_⟩
            have s8 := same_upd (o := .lst (ns'.map V.int)) nl
            refine ⟨szr, fun t nt => ?_⟩
            have s9 := same_upd (o := .tup [V.str "place", V.int (2 * (1 + (i : Int)) + (0 + (s : Int))), V.ref l]) nt
            refine hQ1 _ _ ecl t l _ (((sA.trans s7).trans s8).trans s9) ?_ ?_
            · rw [upd_same, ei, es]
            · rw [hvo, hvt, ← srt_two hp hpw c1']
              exact s9 _ _ upd_same
          · have c3' : vt = vb := Classical.byContradiction fun z => c3 (decide_eq_true z)
            have hc : ¬ (vo ≠ vt ∧ vo ≠ vb ∧ vt ≠ vb) := fun h => h.2.2 c3'
            obtain ⟨f1, f2⟩ := fin hc
            refine ⟨fun σ' H' => H' = H5 ∧ σ' = [some (.ref a), some (.ref D), some (.int (1 + (i : Int))), some (.ref R), some (.int (0 + (s : Int))), some (.int vb), some (.int (if vo = vb then vt else vo)), some (.int vt), none], ?_, ?_⟩
            · refine ⟨_, rfl, _, rfl, rfl, _, rfl, ?_⟩
              rw [dec_int]
              refine ite2 (fun d => ?_) (fun d => ?_)
              · exact ⟨_, rfl, rfl, by rw [if_pos (show vo = vb by simpa using d)]; rfl⟩
              · exact ⟨rfl, by rw [if_neg (show ¬ vo = vb by simpa using d)]; rfl⟩
            · rintro σ' H' ⟨rfl, rfl⟩
              exact ⟨_, rfl, tyL hR.sq, _, rfl, R, _, _, rfl, rfl, hR, szl rl, ⟨_, _, _, _, rfl⟩, f1, same_put hs5 nR, f2⟩
        · have c2' : vo = vb := Classical.byContradiction fun z => c2 (decide_eq_true z)
          have hc : ¬ (vo ≠ vt ∧ vo ≠ vb ∧ vt ≠ vb) := fun h => h.2.1 c2'
          obtain ⟨f1, f2⟩ := fin hc
          refine ⟨fun σ' H' => H' = H5 ∧ σ' = [some (.ref a), some (.ref D), some (.int (1 + (i : Int))), some (.ref R), some (.int (0 + (s : Int))), some (.int vb), some (.int (if vo = vb then vt else vo)), some (.int vt), none], ?_, ?_⟩
          · refine ⟨_, rfl, _, rfl, rfl, _, rfl, ?_⟩
            rw [dec_int]
            refine ite2 (fun d => ?_) (fun d => ?_)
            · exact ⟨_, rfl, rfl, by rw [if_pos (show vo = vb by simpa using d)]; rfl⟩
            · exact ⟨rfl, by rw [if_neg (show ¬ vo = vb by simpa using d)]; rfl⟩
          · rintro σ' H' ⟨rfl, rfl⟩
            exact ⟨_, rfl, tyL hR.sq, _, rfl, R, _, _, rfl, rfl, hR, szl rl, ⟨_, _, _, _, rfl⟩, f1, same_put hs5 nR, f2⟩
      · have c1' : vo = vt := Classical.byContradiction fun z => c1 (decide_eq_true z)
        have hc : ¬ (vo ≠ vt ∧ vo ≠ vb ∧ vt ≠ vb) := fun h => h.1 c1'
        obtain ⟨f1, f2⟩ := fin hc
        refine ⟨fun σ' H' => H' = H5 ∧ σ' = [some (.ref a), some (.ref D), some (.int (1 + (i : Int))), some (.ref R), some (.int (0 + (s : Int))), some (.int vb), some (.int (if vo = vb then vt else vo)), some (.int vt), none], ?_, ?_⟩
        · refine ⟨_, rfl, _, rfl, rfl, _, rfl, ?_⟩
          rw [dec_int]
          refine ite2 (fun d => ?_) (fun d => ?_)
          · exact ⟨_, rfl, rfl, by rw [if_pos (show vo = vb by simpa using d)]; rfl⟩
          · exact ⟨rfl, by rw [if_neg (show ¬ vo = vb by simpa using d)]; rfl⟩
        · rintro σ' H' ⟨rfl, rfl⟩
          exact ⟨_, rfl, tyL hR.sq, _, rfl, R, _, _, rfl, rfl, hR, szl rl, ⟨_, _, _, _, rfl⟩, f1, same_put hs5 nR, f2⟩
    · rintro σ H4 ⟨⟨u4, u5, u6, u7, rfl⟩, hR, hs4, hnoS⟩
      obtain ⟨ys, hys2, hyp2, hynd⟩ := hst
      have hys := hs4 _ _ hys2
      have hyl : ys.length = i + 1 := by rw [Paired.length hyp2, mrgTo_len]
      have nRD : R ≠ D := fun e => by rw [e, hys2] at nR; cases nR
      have hR' : H4 R = some (.lst [.int (mrow r0 r1 r2 (1 + i)).1, .int (mrow r0 r1 r2 (1 + i)).2]) := hR
      have ref : ∀ y ∈ ys, ∃ t o, y = V.ref t ∧ H2 t = some o := by
        intro y hy
        obtain ⟨k, hk⟩ := List.mem_iff_getElem?.mp hy
        obtain ⟨r, _, t, e, ht⟩ := paired_at hyp2 hk
        exact ⟨t, _, e, ht⟩
      refine ⟨_, rfl, tyL (SqL.of hys), _, rfl, D, _, _, rfl, rfl, hys, szl (by omega), ⟨_, _, _, _, _, _, rfl⟩, ?_, same_put (hs.trans hs4) nD0, hnoS⟩
      refine ⟨ys ++ [.ref R], upd_same, ?_, ?_⟩
      · rw [mrgTo_succ]
        refine paired_snoc (paired_mono ?_ hyp2) ⟨R, rfl, by rw [upd_ne nRD]; exact hR'⟩
        rintro y p ⟨t, e, ht⟩
        refine ⟨t, e, ?_⟩
        rw [upd_ne (fun z => ?_)]
        · exact hs4 _ _ ht
        · rw [z, hys2] at ht
          have e2 : ys = [V.int p.1, V.int p.2] := by cases ht; rfl
          obtain ⟨_, _, e3, _⟩ := ref (.int p.1) (by rw [e2]; simp)
          cases e3
      · refine nd_snoc hynd fun m => ?_
        obtain ⟨t, o, e, ht⟩ := ref _ m
        cases e
        rw [nR] at ht
        cases ht
  · rintro σ H1 ⟨⟨u2, u3, u4, u5, u6, u7, rfl⟩, hst, hs, hno⟩
    have ecl : clashS r0 r1 r2 = none := by
      unfold clashS
      rw [pn]
      exact find_no fun j q hj => hno j q (by have := (List.getElem?_eq_some_iff.mp hj).1; rw [plc_len] at this; exact this) hj
    have eM : mrgTo r0 r1 r2 (n - 1) = mrgS r0 r1 r2 := by unfold mrgS; rw [pn]
    rw [eM] at hst
    have lM : (mrgS r0 r1 r2).length = n := by rw [← eM, mrgTo_len]; omega
    refine ⟨_, rfl, D, _, rfl, hst, by rw [lM]; omega, fun H2 h2 => ?_⟩
    have s2 := hs.trans h2
    refine ⟨_, rfl, rfl, _, rfl, ?_⟩
    refine ite2 (fun c => ?_) (fun c => ?_)
    · have c' : brk (mrgS r0 r1 r2) = "" := V.str.inj (of_decide_eq_true c)
      refine ⟨_, rfl, D, _, rfl, hst.same h2, by rw [lM]; omega, by rw [lM]; omega, fun d H3 h3 nd hd => ⟨szr, fun t nt => ?_⟩⟩
      have s4 := same_upd (o := .tup [V.str "book", V.ref d]) nt
      exact hQ2 ecl c' t d _ ((s2.trans h3).trans s4) upd_same (s4 _ _ hd)
    · have c' : brk (mrgS r0 r1 r2) ≠ "" := fun e => c (decide_eq_true (by rw [e]))
      obtain ⟨br, hbr⟩ := hfb ecl c'
      refine ⟨_, rfl, _, rfl, _, rfl, D, _, _, br, rfl, hst.same h2, by rw [lM]; omega, by rw [lM]; omega, hbr, fun yb H3 h3 hyb => ⟨szr, fun t nt => ?_⟩⟩
      have s4 := same_upd (o := .tup [V.str "rule", V.str (brk (mrgS r0 r1 r2)), yb]) nt
      exact hQ3 ecl br hbr t yb _ ((s2.trans h3).trans s4) upd_same (Br.same s4 hyb)
end
end K80
end
section
set_option maxHeartbeats 4000000
namespace K80
open PySem PySem.Spec PyProof.Rows L2 Inf
/-- an error class that is caught, of the family CC -/
structure Caught (K : PySem.W.Frag) (C CC : Addr) : Prop where
  err : ErrC K C
  xf : XfC K C
  exm : PySem.W.exmOne K (.ref C) (.ref C) = some true
  kit : PySem.W.kitOne K (.ref C) (.ref CC) = some true
theorem paired_refl_int {K : PySem.W.Frag} {H : Hp} (l : List Int) : Paired (EqW K H 1) (l.map V.int) (l.map V.int) := by
  induction l with
  | nil => exact .nil
  | cons x r ih => exact .cons (.inl ⟨rfl, rfl⟩) ih
section
variable {P : Program} {w : World} {K : PySem.W.Frag} {mg : Str → Option Value} {base : Heap} {f : Addr} {fd : FuncData}
/-! ### _law_positions_told -/
def sp_positions_told (K : PySem.W.Frag) : Sp := fun vs H Q _ => ∃ (a x y z : Addr) (l0 l1 l2 : Arr), vs = [.ref a] ∧ H a = some (.lst [.ref x, .ref y, .ref z]) ∧ Ar H x l0 ∧ Ar H y l1 ∧ Ar H z l2 ∧ l0.length + (l1.length + l2.length) < 64 ∧
  (clashP l0 l1 l2 = none → ∀ t d H', Same H H' → H' t = some (.tup [.str "told", .ref d]) → H d = none → Ar H' d (mrgP l0 l1 l2) → Q (.ref t) H') ∧
  ∀ q, clashP l0 l1 l2 = some q → ∀ t H', Same H H' → H' t = some (.tup [.str "refused", .int q]) → Q (.ref t) H'
theorem ok_positions_told {C CC : Addr} (F : FnP K "_law_positions_told" "_law_positions_told" s_positions_told f fd) (B : BT mg) (G_merge_positions : Has P w K mg base (L2N.CX P w) 3 "merge_positions" (sp_merge_positions C K)) (H_ints : HasH P w K mg base 1 "_law_ints" sp_ints)
    (T : Caught K C CC) (nF : NoAttr K C "position") (gC : mg "PositionClash" = some (.ref C)) (gCC : mg "ClashError" = some (.ref CC)) : FnOk P w K mg base CX0 4 f fd ["_law_three"] (sp_positions_told K) := by
  refine okN F sc_positions_told (fun vs H Q E h => ?_) (fun cdv A outer s H vs Q E hr h => ?_)
  · obtain ⟨_, _, _, _, _, _, _, rfl, _⟩ := h
    rfl
  obtain ⟨a, x, y, z, l0, l1, l2, rfl, h0, hx, hy, hz, hl, hQ1, hQ2⟩ := h
  refine ⟨_, pss_one (L2N.ps_try_as (i := 1) (Wout := fun _ _ _ _ => False) rfl rfl sc_positions_told.nd rfl rfl ⟨rfl, by decide, .inl gC⟩ takesNo
    (fun W pn xe tk _ => pss_one (ps_ret (pe_tup (pa_cons pe_str (pa_cons (pe_cS G_merge_positions hr tk (pa_cons (pe_ix (ixList K) (pv 0) pe_int (fun _ _ => rfl)) (pa_cons (pe_ix (ixList K) (pv 0) pe_int (fun _ _ => rfl)) (pa_cons (pe_ix (ixList K) (pv 0) pe_int (fun _ _ => rfl)) pa_nil)))) pa_nil)))))
    (fun a oe cls d pn hz hf => pss_cons (ps_if (PW.pt (pw_or (pt_not (pt_val (pe_callB (call_isX T.err hz.zc hf) (by rfl) B.isinstance (by decide +kernel) (pa_cons (pv 1) (pa_cons (pe_glob (v := V.ref CC) rfl gCC rfl) pa_nil))))) (pw_or1 (pt_not (pt_val (pe_cH H_ints hr hz hf (pa_cons (pe_lst (pa_cons (pe_xf T.xf nF hz.zc hf (pv 1)) pa_nil)) pa_nil)))))))
        (pss_one (ps_ret (pe_tup (pa_cons pe_str (pa_cons pe_int pa_nil))))) pss_nil)
      (pss_one (ps_ret (pe_tup (pa_cons pe_str (pa_cons (pe_xf T.xf nF hz.zc hf (pv 1)) pa_nil))))))), ?_⟩
  have a0 : atI [V.ref x, V.ref y, V.ref z] 0 = some (.ref x) := atI_nat (j := 0) rfl
  have a1 : atI [V.ref x, V.ref y, V.ref z] 1 = some (.ref y) := atI_nat (j := 1) rfl
  have a2 : atI [V.ref x, V.ref y, V.ref z] 2 = some (.ref z) := atI_nat (j := 2) rfl
  refine ⟨_, rfl, a, _, _, _, rfl, rfl, SqL.of h0, a0, _, rfl, a, _, _, _, rfl, rfl, SqL.of h0, a1, _, rfl, a, _, _, _, rfl, rfl, SqL.of h0, a2, x, y, z, l0, l1, l2, rfl, hx, hy, hz, hl, fun hc p H1 hs np hp => ?_, fun q hc d H1 hs hd => ?_⟩
  · refine ⟨szr, fun t nt => ?_⟩
    have s2 := same_upd (o := .tup [V.str "told", V.ref p]) nt
    exact hQ1 hc t p _ (hs.trans s2) upd_same np (hp.same s2)
  · refine ⟨true, T.exm, fun _ e ne => ?_, fun z => by cases z⟩
    refine ⟨_, rfl, _, _, true, d, _, rfl, fun u r => r, rfl, rfl, hd, T.kit, true, rfl, iteF ?_⟩
    refine ⟨_, rfl, rfl, rfl, d, _, .int q, rfl, hd, rfl, szr, fun p np => ?_⟩
    have s2 := same_upd (o := .lst [V.int q]) np
    refine ⟨p, [q], rfl, upd_same, true, rfl, iteF ?_⟩
    refine ⟨_, rfl, rfl, rfl, d, _, .int q, rfl, s2 _ _ hd, rfl, szr, fun t nt => ?_⟩
    exact hQ2 q hc t _ ((hs.trans s2).trans (same_upd nt)) upd_same
/-! ### _law_places_told -/
def sp_places_told (CR CA CN : Addr) (K : PySem.W.Frag) : Sp := fun vs H Q _ => ∃ (x : V) (a b0 b1 b2 : Addr) (l0 l1 l2 : List (Int × Int)) (n : Nat), vs = [x, .ref a] ∧ RbI CR CA CN H x n ∧ n ≤ 30 ∧ H a = some (.lst [.ref b0, .ref b1, .ref b2]) ∧ Bk H b0 l0 ∧ Bk H b1 l1 ∧ Bk H b2 l2 ∧
  LawB l0 n ∧ LawB l1 n ∧ LawB l2 n ∧ l1.length + l2.length < 64 ∧ NdOk (mrgB l0 l1 l2) n ∧
  (clsB l0 l1 l2 = [] → rz (mrgB l0 l1 l2) n = none → ∀ t d H', Same H H' → H' t = some (.tup [.str "book", .ref d]) → H d = none → Bk H' d (mrgB l0 l1 l2) → Q (.ref t) H') ∧
  (clsB l0 l1 l2 = [] → ∀ k br, rz (mrgB l0 l1 l2) n = some (k, br) → ∀ t y H', Same H H' → H' t = some (.tup [.str "rule", .str k, y]) → Br H' y br → Q (.ref t) H') ∧
  ∀ q r, clsB l0 l1 l2 = q :: r → ∀ t l H', Same H H' → H' t = some (.tup [.str "place", .int q, .ref l]) → Ls H' l (two (gv l1 q) (gv l2 q)) → Q (.ref t) H'
theorem ok_places_told {CR CA CN CP CU CC : Addr} (F : FnP K "_law_places_told" "_law_places_told" s_places_told f fd) (B : BT mg) (G_merge_two : Has P w K mg base (L2N.CX P w) 7 "merge_two" (sp_merge_two CR CA CN CP CU K)) (H_ints : HasH P w K mg base 1 "_law_ints" sp_ints)
    (T : Caught K CP CC) (U : Caught K CU CC) (e1 : PySem.W.exmOne K (.ref CU) (.ref CP) = some false) (p1 : NoAttr K CP "place") (p2 : NoAttr K CP "found") (u1 : NoAttr K CU "key") (u2 : NoAttr K CU "bar")
    (gP : mg "PlaceClash" = some (.ref CP)) (gU : mg "RuleClash" = some (.ref CU)) (gCC : mg "ClashError" = some (.ref CC)) : FnOk P w K mg base CX0 8 f fd ["_law_rules", "_law_books"] (sp_places_told CR CA CN K) := by
  refine okN F sc_places_told (fun vs H Q E h => ?_) (fun cdv A outer s H vs Q E hr h => ?_)
  · obtain ⟨_, _, _, _, _, _, _, _, _, rfl, _⟩ := h
    rfl
  obtain ⟨x, a, b0, b1, b2, l0, l1, l2, n, rfl, hR, hn, h0, hx, hy, hz, L0, L1, L2', hl, okm, hQ1, hQ2, hQ3⟩ := h
  refine ⟨_, pss_one (ps_try_as2 (i := 2) rfl rfl sc_places_told.nd rfl rfl
    (fun W pn xe tk _ => pss_one (ps_ret (pe_tup (pa_cons pe_str (pa_cons (pe_cS G_merge_two hr tk (pa_cons (pv 0) (pa_cons (pe_ix (ixList K) (pv 1) pe_int (fun _ _ => rfl)) (pa_cons (pe_ix (ixList K) (pv 1) pe_int (fun _ _ => rfl)) (pa_cons (pe_ix (ixList K) (pv 1) pe_int (fun _ _ => rfl)) pa_nil))))) pa_nil)))))
    ⟨⟨rfl, by decide, .inl gP⟩, fun a oe cls d pn hz hf => pss_cons (ps_if (PW.pt (pw_or (pt_not (pt_val (pe_callB (call_isX T.err hz.zc hf) (by rfl) B.isinstance (by decide +kernel) (pa_cons (pv 2) (pa_cons (pe_glob (v := V.ref CC) rfl gCC rfl) pa_nil)))))
          (pw_or (pt_not (pt_val (pe_cH H_ints hr hz hf (pa_cons (pe_xf T.xf p2 hz.zc hf (pv 2)) pa_nil)))) (pw_or1 (pt_not (pt_val (pe_cH H_ints hr hz hf (pa_cons (pe_lst (pa_cons (pe_xf T.xf p1 hz.zc hf (pv 2)) pa_nil)) pa_nil))))))))
        (pss_one (ps_ret (pe_tup (pa_cons pe_str (pa_cons pe_int pa_nil))))) pss_nil)
      (pss_one (ps_ret (pe_tup (pa_cons pe_str (pa_cons (pe_xf T.xf p1 hz.zc hf (pv 2)) (pa_cons (pe_xf T.xf p2 hz.zc hf (pv 2)) pa_nil))))))⟩
    ⟨⟨rfl, by decide, .inl gU⟩, fun a oe cls d pn hz hf => pss_one (ps_ret (pe_tup (pa_cons pe_str (pa_cons (pe_xf U.xf u1 hz.zc hf (pv 2)) (pa_cons (pe_xf U.xf u2 hz.zc hf (pv 2)) pa_nil)))))⟩), ?_⟩
  have a0 : atI [V.ref b0, V.ref b1, V.ref b2] 0 = some (.ref b0) := atI_nat (j := 0) rfl
  have a1 : atI [V.ref b0, V.ref b1, V.ref b2] 1 = some (.ref b1) := atI_nat (j := 1) rfl
  have a2 : atI [V.ref b0, V.ref b1, V.ref b2] 2 = some (.ref b2) := atI_nat (j := 2) rfl
  refine ⟨_, rfl, _, rfl, a, _, _, _, rfl, rfl, SqL.of h0, a0, _, rfl, a, _, _, _, rfl, rfl, SqL.of h0, a1, _, rfl, a, _, _, _, rfl, rfl, SqL.of h0, a2, x, b0, b1, b2, l0, l1, l2, n, rfl, hR, hn, hx, hy, hz, L0, L1, L2', hl, okm, fun hc hrz p H1 hs np hp => ?_, fun hc k br hrz d y H1 hs hd hbr => ?_, fun q r hc d l H1 hs hd hls => ?_⟩
  · refine ⟨szr, fun t nt => ?_⟩
    have s2 := same_upd (o := .tup [V.str "book", V.ref p]) nt
    exact hQ1 hc hrz t p _ (hs.trans s2) upd_same np (s2 _ _ hp)
  · refine .inr ⟨e1, U.exm, fun e ne => ?_⟩
    refine ⟨_, rfl, rfl, rfl, d, _, .str k, rfl, hd, rfl, _, rfl, rfl, rfl, d, _, y, rfl, hd, rfl, szr, fun t nt => ?_⟩
    have s2 := same_upd (o := .tup [V.str "rule", V.str k, y]) nt
    exact hQ2 hc k br hrz t y _ (hs.trans s2) upd_same (Br.same s2 hbr)
  · refine .inl ⟨T.exm, fun e ne => ?_⟩
    refine ⟨_, rfl, _, _, true, d, _, rfl, fun u r => r, rfl, rfl, hd, T.kit, true, rfl, iteF ?_⟩
    refine ⟨_, rfl, rfl, rfl, d, _, .ref l, rfl, hd, rfl, l, _, rfl, hls, true, rfl, iteF ?_⟩
    refine ⟨_, rfl, rfl, rfl, d, _, .int q, rfl, hd, rfl, szr, fun p np => ?_⟩
    have s2 := same_upd (o := .lst [V.int q]) np
    refine ⟨p, [q], rfl, upd_same, true, rfl, iteF ?_⟩
    refine ⟨_, rfl, rfl, rfl, d, _, .int q, rfl, s2 _ _ hd, rfl, _, rfl, rfl, rfl, d, _, .ref l, rfl, s2 _ _ hd, rfl, szr, fun t nt => ?_⟩
    have s3 := same_upd (o := .tup [V.str "place", V.int q, V.ref l]) nt
    exact hQ3 q r hc t l _ ((hs.trans s2).trans s3) upd_same (s3 _ _ (s2 _ _ hls))
/-! ### _law_nothing_lost -/
def sp_nothing_lost (K : PySem.W.Frag) : Sp := fun vs H Q _ => ∃ (a m : Addr) (r0 r1 r2 : Std) (l : Arr) (n : Nat), vs = [.ref a, .ref m] ∧ Th H a r0 r1 r2 ∧ r0.length = n ∧ r1.length = n ∧ r2.length = n ∧ 0 < n ∧ n ≤ 100 ∧ Ar H m l ∧ (l.map (·.1)).Nodup ∧ l.length < 64 ∧
  (∀ i : Nat, 1 ≤ i → i < n → 0 < (row r1 i).1 → 0 < (row r2 i).1 → ((i : Nat) : Int) ∈ l.map (·.2.1)) ∧ (∀ k, 1 < (l.map (·.2.1)).count k ↔ k ∈ twL r0 r1 r2) ∧ (twL r0 r1 r2).Pairwise (· < ·) ∧ ∀ H', Same H H' → Q (.bl true) H'
theorem ok_nothing_lost (F : FnP K "_law_nothing_lost" "_law_nothing_lost" s_nothing_lost f fd) (B : BT mg) (G_doubled : Has P w K mg base CX0 2 "doubled" (sp_doubled K)) (G_ints : Has P w K mg base CX0 1 "_law_ints" sp_ints) (G_twice : Has P w K mg base CX0 1 "_law_twice" (sp_twice K)) :
    FnOk P w K mg base CX0 3 f fd ["_law_three", "_law_merged"] (sp_nothing_lost K) := by
  refine okN F sc_nothing_lost (fun vs H Q E h => ?_) (fun cdv A outer s H vs Q E hr h => ?_)
  · obtain ⟨_, _, _, _, _, _, _, rfl, _⟩ := h
    rfl
  obtain ⟨a, m, r0, r1, r2, l, n, rfl, hth, q0, q1, q2, hn0, hn, har, nd, hl, hin, hdb, pw, hQ⟩ := h
  have hu := hu_of hr
  obtain ⟨x, y, z, h0, hx, hy, hz⟩ := hth.ex
  refine ⟨_, pss_cons (ps_lock (ps_setLc (i := 2) (own := [("_law_position", 5)]) (g := gName 5) (tt := tYes) rfl sc_nothing_lost.nd rfl rfl (sw_true rfl rfl rfl (by decide +kernel)) (pi_keys (pv 1)) (blkOk_by (own := [("_law_position", 5)]) (N := ["_law_three", "_law_merged", "_law_standing", "_law_item", "_law_told", "_law_position"]) (sc := defScope s_nothing_lost) (by decide +kernel)) (fun _ _ _ _ _ => (pg_name (i := 5) sc_nothing_lost.nd rfl (Or.inl rfl))) (fun _ _ _ _ _ => pts_nil) (fun _ _ _ _ _ => (pe_ix (ixTup K) (pe_dget hu (pv 1) (pv 5) (fun _ _ => rfl)) pe_int (fun _ _ => rfl)))))
    (pss_cons (ps_for PassesOwn.never rfl (pi_range2 rfl B.range (pa_cons pe_int (pa_cons (pe_callB call_len_seq (by rfl) B.len (by decide +kernel) (pa_cons (pe_ix ix_list (pv 0) pe_int (fun _ _ => rfl)) pa_nil)) pa_nil))) (pg_name (i := 3) sc_nothing_lost.nd rfl (Or.inl rfl))
     (pss_one (ps_if (PW.pt (pw_and (pt_cmpR op_gt (pe_ix ix_list (pe_ix ix_list (pe_ix ix_list (pv 0) pe_int (fun _ _ => rfl)) (pv 3) (fun _ _ => rfl)) pe_int (fun _ _ => rfl)) pe_int (nomark _)) (pw_and (pt_cmpR op_gt (pe_ix ix_list (pe_ix ix_list (pe_ix ix_list (pv 0) pe_int (fun _ _ => rfl)) (pv 3) (fun _ _ => rfl)) pe_int (fun _ _ => rfl)) pe_int (nomark _)) (pw_and1 (pt_cmpR op_notIn_seq (pv 3) (pv 2) (by rfl))))))
      (pss_one (ps_ret pe_bl))
      pss_nil)))
    (pss_cons (ps_set (i := 4) sc_nothing_lost.nd rfl (.inl rfl) (pe_c G_doubled hr (pa_cons (pv 1) pa_nil)))
    (pss_one (ps_ret (pe_and (pe_c G_ints hr (pa_cons (pv 4) pa_nil)) (pe_one (pe_cmpR (op_eqS hr.units) (pv 4) (pe_c G_twice hr (pa_cons (pv 0) pa_nil)) (nomark _)))))))), ?_⟩
  obtain ⟨ks, hk, hp⟩ := har
  have hkl : ks.length = l.length := Paired.length hp
  refine ⟨m, _, hk, True.intro, fun od => ?_⟩
  refine ⟨_, rfl, m, od, rfl, .inl ⟨ks, upd_same, fun D nD => ?_⟩⟩
  have nDm : D ≠ m := fun e => by rw [e, upd_same] at nD; cases nD
  refine lc_it walk_keys (fun i H' => Ls H' D ((l.take i).map (·.2.1)) ∧ Same (upd H m (.frz od (.dK ks))) H') ⟨upd_same, same_upd nD⟩ (fun i H' _ p => p.2 _ _ upd_same) ?_ ?_
  · rintro i v H1 H2 hi ⟨h1, hs⟩ ⟨rfl, k, w1, hk2, rfl⟩
    obtain ⟨e, he, r1', _⟩ := paired_at hp hk2
    have r1'' : k = Sum.inl e.1 := r1'
    subst r1''
    have zz := ent_val hp e.1
    rw [get_of_mem nd (List.mem_of_getElem? he)] at zz
    obtain ⟨t', e1, ht'⟩ := entO_some zz
    have ht2 : H2 t' = some (.tup [.int e.2.1, .int e.2.2]) := hs _ _ (by rw [upd_ne (fun z => by subst z; rw [hk] at ht'; cases ht')]; exact ht')
    refine ⟨rfl, yes_go (iteT ?_)⟩
    refine ⟨_, rfl, _, rfl, m, _, rfl, .inl ⟨ks, .inl e.1, .inr ⟨od, hs _ _ upd_same⟩, rfl, e1.symm⟩, t', _, _, _, rfl, rfl, SqT.of ht2, atI_nat (j := 0) (v := .int e.2.1) (by simp), _, h1, szl (by rw [List.length_map, List.length_map, List.length_take]; omega), ?_, same_put hs nD⟩
    rw [take_snoc he, Ls, upd_same, List.map_append, List.map_append]
    rfl
  · rintro H1 ⟨h1, hs⟩
    have sU := same_unlock hk hs
    refine ⟨hs _ _ upd_same, ?_⟩
    rw [hkl, List.take_length] at h1
    have h1' : Ls (upd H1 m (.dK ks)) D (l.map (·.2.1)) := by rw [Ls, upd_ne nDm]; exact h1
    generalize upd H1 m (.dK ks) = H2 at sU h1'
    have a0 : atI [V.ref x, V.ref y, V.ref z] 0 = some (.ref x) := atI_nat (j := 0) rfl
    have a1 : atI [V.ref x, V.ref y, V.ref z] 1 = some (.ref y) := atI_nat (j := 1) rfl
    have a2 : atI [V.ref x, V.ref y, V.ref z] 2 = some (.ref z) := atI_nat (j := 2) rfl
    obtain ⟨ws, hws, hwl⟩ := (hx.same sU).len
    refine ⟨_, rfl, a, _, _, _, rfl, rfl, SqL.of (sU _ _ h0), a0, x, _, rfl, .inl (SqL.of hws), _, _, rfl, ⟨by decide, by decide, by omega, by omega⟩, ?_⟩
    rw [hwl, q0, show ((n : Int) - 1).toNat = n - 1 from by omega]
    refine for_it walk_range (fun i σ H' => (∃ u, σ = [some (.ref a), some (.ref m), some (.ref D), u, none, none]) ∧ H' = H2) ⟨⟨_, rfl⟩, rfl⟩ (fun _ _ _ _ _ => True.intro) ?_ ?_
    · rintro i v σ H3 H4 hi ⟨⟨u, rfl⟩, rfl⟩ ⟨rfl, rfl⟩
      have ei : ((1 : Int) + (i : Nat)) = ((1 + i : Nat) : Int) := by omega
      obtain ⟨w1, t1, hw1, e1, ht1⟩ := (hy.same sU).at (i := 1 + i) (by omega)
      obtain ⟨w2, t2, hw2, e2, ht2⟩ := (hz.same sU).at (i := 1 + i) (by omega)
      refine ⟨_, rfl, a, _, _, _, rfl, rfl, SqL.of (sU _ _ h0), a1, _, rfl, y, _, _, _, rfl, rfl, SqL.of hw1, (by rw [ei]; exact e1), t1, _, _, _, rfl, rfl, SqL.of ht1, at2_0 _, _, _, rfl, rfl, _, rfl, ?_⟩
      refine ite2 (fun c1 => ?_) (fun c1 => iteF ⟨⟨_, rfl⟩, rfl⟩)
      refine ⟨_, rfl, a, _, _, _, rfl, rfl, SqL.of (sU _ _ h0), a2, _, rfl, z, _, _, _, rfl, rfl, SqL.of hw2, (by rw [ei]; exact e2), t2, _, _, _, rfl, rfl, SqL.of ht2, at2_0 _, _, _, rfl, rfl, _, rfl, ?_⟩
      refine ite2 (fun c2 => ?_) (fun c2 => iteF ⟨⟨_, rfl⟩, rfl⟩)
      have mem := hin (1 + i) (by omega) (by omega) (of_decide_eq_true c1) (of_decide_eq_true c2)
      refine ⟨_, rfl, _, rfl, D, _, rfl, .inl h1'.sq, rfl, all_flat _, _, rfl, ?_⟩
      show if (!inV (V.int (1 + (i : Int))) ((l.map (·.2.1)).map V.int)) = true then _ else _
      rw [inV_int, ei, decide_eq_true mem]
      exact iteF ⟨⟨_, rfl⟩, rfl⟩
    · rintro σ H3 ⟨⟨u, rfl⟩, rfl⟩
      refine ⟨_, rfl, m, l, rfl, ⟨ks, sU _ _ hk, paired_mono (fun _ _ r => r.same sU) hp⟩, hl, fun ds p H4 hpw hm h4 np hds => ?_⟩
      have ed : ds = twL r0 r1 r2 := strict_ext hpw pw fun k => by rw [hm, hdb]
      refine ⟨_, rfl, p, _, rfl, hds, true, rfl, iteT ?_⟩
      refine ⟨_, rfl, _, rfl, a, r0, r1, r2, n, rfl, (hth.same sU).same h4, q0, q1, q2, hn0, hn, fun t H5 h5 nt ht => ?_⟩
      refine ⟨1, by decide, .inl ⟨p, t, _, _, rfl, rfl, (h5.seq hds.sq), ht.sq, ?_⟩, ?_⟩
      · rw [ed]
        exact paired_refl_int _
      · exact hQ _ ((sU.trans h4).trans h5)
end
end K80
end
section
set_option maxHeartbeats 4000000
/-! Plain matters: rows of items, their book and what is broken in it. -/
namespace K80
open PySem PySem.Spec PyProof.Rows L2 Inf
/-! ### lists by keys -/
theorem sorted_ext {α : Type} : ∀ {l m : List (Int × α)}, l.Pairwise (fun a b => a.1 < b.1) → m.Pairwise (fun a b => a.1 < b.1) → (∀ e, e ∈ l ↔ e ∈ m) → l = m
  | [], [], _, _, _ => rfl
  | [], y :: _, _, _, h => absurd ((h y).mpr (by simp)) (by simp)
  | x :: _, [], _, _, h => absurd ((h x).mp (by simp)) (by simp)
  | x :: l, y :: m, hl, hm, h => by
    have h1 := List.pairwise_cons.mp hl
    have h2 := List.pairwise_cons.mp hm
    have e : x = y := by
      rcases List.mem_cons.mp ((h x).mp (by simp)) with e | hx
      · exact e
      · rcases List.mem_cons.mp ((h y).mpr (by simp)) with e | hy
        · exact e.symm
        · have := h1.1 y hy
          have := h2.1 x hx
          omega
    subst e
    rw [sorted_ext h1.2 h2.2 fun e => ?_]
    constructor
    · intro he
      rcases List.mem_cons.mp ((h e).mp (List.mem_cons_of_mem _ he)) with rfl | r
      · exact absurd (h1.1 _ he) (by omega)
      · exact r
    · intro he
      rcases List.mem_cons.mp ((h e).mpr (List.mem_cons_of_mem _ he)) with rfl | r
      · exact absurd (h2.1 _ he) (by omega)
      · exact r
theorem nodup_of_sorted {α : Type} {l : List (Int × α)} (h : l.Pairwise (fun a b => a.1 < b.1)) : (l.map (·.1)).Nodup := by
  rw [List.nodup_iff_pairwise_ne, List.pairwise_map]
  exact h.imp fun z => by omega
theorem sorted_filterMap {α : Type} (f : Int → Option (Int × α)) (hf : ∀ q e, f q = some e → e.1 = q) {ks : List Int} (h : ks.Pairwise (· < ·)) : (ks.filterMap f).Pairwise (fun a b => a.1 < b.1) := by
  rw [List.pairwise_filterMap]
  refine h.imp fun lt b hb c hc => ?_
  rw [hf _ _ hb, hf _ _ hc]
  exact lt
/-- l tells the positive values of F -/
def Tells (l : List (Int × Int)) (F : Int → Int) : Prop := ∀ q v, (q, v) ∈ l ↔ 0 < v ∧ v = F q
theorem Tells.gv {l : List (Int × Int)} {F : Int → Int} (nd : (l.map (·.1)).Nodup) (h : Tells l F) (nn : ∀ q, 0 ≤ F q) (q : Int) : gv l q = F q := by
  unfold K80.gv
  by_cases z : 0 < F q
  · rw [get_of_mem nd ((h q (F q)).mpr ⟨z, rfl⟩)]
    rfl
  · have : get l q = none := by
      rw [get_none]
      intro m
      obtain ⟨e, he, rfl⟩ := List.mem_map.mp m
      have := (h e.1 e.2).mp he
      omega
    rw [this]
    show (0 : Int) = F q
    have := nn q
    omega
/-! ### the book of rows -/
/-- the value of a place -/
def vl (n : Nat) (rows : Std) (q : Int) : Int := if 2 ≤ q ∧ q < 2 * (n : Int) then sd (row rows (q / 2).toNat) (q % 2).toNat else 0
theorem vl_at {n : Nat} {rows : Std} {i s : Nat} (h1 : 1 ≤ i) (h2 : i < n) (h3 : s < 2) : vl n rows (2 * (i : Int) + (s : Int)) = sd (row rows i) s := by
  unfold vl
  rw [if_pos (by omega)]
  have e1 : ((2 * (i : Int) + (s : Int)) / 2).toNat = i := by omega
  have e2 : ((2 * (i : Int) + (s : Int)) % 2).toNat = s := by omega
  rw [e1, e2]
theorem vl_pos {n : Nat} {rows : Std} {i : Nat} (h1 : 1 ≤ i) (h2 : i < n) : vl n rows (2 * (i : Int)) = (row rows i).1 := by
  have := vl_at (rows := rows) (s := 0) h1 h2 (by omega)
  simpa [sd] using this
theorem vl_con {n : Nat} {rows : Std} {i : Nat} (h1 : 1 ≤ i) (h2 : i < n) : vl n rows (2 * (i : Int) + 1) = (row rows i).2 := by
  have := vl_at (rows := rows) (s := 1) h1 h2 (by omega)
  simpa [sd] using this
theorem place_split {n : Nat} {q : Int} (h : 2 ≤ q ∧ q < 2 * (n : Int)) : ∃ i s : Nat, 1 ≤ i ∧ i < n ∧ s < 2 ∧ q = 2 * (i : Int) + (s : Int) := ⟨(q / 2).toNat, (q % 2).toNat, by omega, by omega, by omega, by omega⟩
/-- rows of items, no value below 0 -/
structure Nn (n : Nat) (rows : Std) : Prop where
  len : rows.length = n
  pos : 0 < n
  zero : row rows 0 = (0, 0)
  nn : ∀ i, 0 ≤ (row rows i).1 ∧ 0 ≤ (row rows i).2
theorem Nn.vl {n : Nat} {rows : Std} (h : Nn n rows) (q : Int) : 0 ≤ vl n rows q := by
  unfold K80.vl
  split
  · unfold sd
    have := h.nn (q / 2).toNat
    split
    · exact this.1
    · exact this.2
  · omega
theorem mem_bkE {i : Nat} {r : Int × Int} {q v : Int} : (q, v) ∈ bkE i r ↔ (q = 2 * (i : Int) ∧ v = r.1 ∧ 0 < v) ∨ (q = 2 * (i : Int) + 1 ∧ v = r.2 ∧ 0 < v) := by
  unfold bkE
  rw [List.mem_append]
  constructor
  · rintro (h | h)
    · split at h
      · simp at h; exact .inl ⟨h.1, h.2, by omega⟩
      · simp at h
    · split at h
      · simp at h; exact .inr ⟨h.1, h.2, by omega⟩
      · simp at h
  · rintro (⟨rfl, rfl, h⟩ | ⟨rfl, rfl, h⟩)
    · left; rw [if_pos h]; simp
    · right; rw [if_pos h]; simp
theorem bkE_sorted (i : Nat) (r : Int × Int) : (bkE i r).Pairwise (fun a b => a.1 < b.1) := by
  unfold bkE
  split <;> split <;> simp
  omega
theorem bookTo_sorted (rows : Std) : ∀ n, (bookTo rows n).Pairwise (fun a b => a.1 < b.1)
  | 0 => .nil
  | n + 1 => by
    rw [bookTo_succ]
    refine List.pairwise_append.mpr ⟨bookTo_sorted rows n, bkE_sorted _ _, fun a ha b hb => ?_⟩
    obtain ⟨i, h1, h2, h3⟩ := bookTo_keys (List.mem_map_of_mem (f := (·.1)) ha)
    have h4 := bkE_keys (List.mem_map_of_mem (f := (·.1)) hb)
    rcases h3 with h3 | h3 <;> rcases h4 with h4 | h4 <;> omega
theorem bookTo_mem {rows : Std} {q v : Int} : ∀ {n : Nat}, (q, v) ∈ bookTo rows n ↔ ∃ i s : Nat, 1 ≤ i ∧ i ≤ n ∧ s < 2 ∧ q = 2 * (i : Int) + (s : Int) ∧ v = sd (row rows i) s ∧ 0 < v
  | 0 => by
    constructor
    · intro h; cases h
    · rintro ⟨i, s, h1, h2, _⟩; omega
  | n + 1 => by
    rw [bookTo_succ, List.mem_append, bookTo_mem, mem_bkE]
    constructor
    · rintro (⟨i, s, h1, h2, h3⟩ | ⟨h1, h2, h3⟩ | ⟨h1, h2, h3⟩)
      · exact ⟨i, s, h1, by omega, h3⟩
      · exact ⟨1 + n, 0, by omega, by omega, by omega, by omega, h2, h3⟩
      · exact ⟨1 + n, 1, by omega, by omega, by omega, by omega, h2, h3⟩
    · rintro ⟨i, s, h1, h2, h3, h4, h5, h6⟩
      by_cases e : i ≤ n
      · exact .inl ⟨i, s, h1, e, h3, h4, h5, h6⟩
      · have e : i = 1 + n := by omega
        subst e
        right
        match s, h3 with
        | 0, _ => exact .inl ⟨by omega, h5, h6⟩
        | 1, _ => exact .inr ⟨by omega, h5, h6⟩
theorem tells_book {n : Nat} {rows : Std} (h : Nn n rows) : Tells (bookOf rows) (vl n rows) := by
  intro q v
  have hn := h.pos
  unfold bookOf
  rw [h.len, bookTo_mem]
  constructor
  · rintro ⟨i, s, h1, h2, h3, rfl, h5, h6⟩
    exact ⟨h6, by rw [vl_at h1 (by omega) h3]; exact h5⟩
  · rintro ⟨h1, h2⟩
    by_cases z : 2 ≤ q ∧ q < 2 * (n : Int)
    · obtain ⟨i, s, e1, e2, e3, e4⟩ := place_split z
      subst e4
      rw [vl_at e1 e2 e3] at h2
      exact ⟨i, s, e1, by omega, e3, rfl, h2, h1⟩
    · unfold vl at h2
      rw [if_neg z] at h2
      omega
theorem book_sorted (rows : Std) : (bookOf rows).Pairwise (fun a b => a.1 < b.1) := bookTo_sorted _ _
theorem gv_book {n : Nat} {rows : Std} (h : Nn n rows) (q : Int) : gv (bookOf rows) q = vl n rows q := (tells_book h).gv (nodup_of_sorted (book_sorted rows)) h.vl q
theorem book_len {n : Nat} {rows : Std} (h : Nn n rows) : (bookOf rows).length ≤ 2 * (n - 1) := by
  unfold bookOf
  rw [h.len]
  exact bookTo_len _ _
/-! ### what is broken -/
def eqL : List (Int × Int) → List Bar
  | [] => []
  | m :: r => (r.filter fun t => decide (m.2 = t.2)).map (fun t => (m, t)) ++ eqL r
theorem eqBars_eq : ∀ ms : List (Int × Int), eqBars ms = eqL ms
  | [] => rfl
  | m :: r => by
    show (List.range (r.length + 1)).flatMap (eqB (m :: r)) = _
    rw [List.range_succ_eq_map, List.flatMap_cons, List.flatMap_map]
    show _ ++ (List.range r.length).flatMap (fun i => eqB (m :: r) (i + 1)) = _
    have : (fun i => eqB (m :: r) (i + 1)) = eqB r := by
      funext i
      unfold eqB
      simp
    rw [this]
    show _ ++ eqBars r = _
    rw [eqBars_eq r]
    unfold eqB
    simp [eqL]
def hd2 : List (Int × Int) → Option Bar
  | [] => none
  | m :: r => if 0 < m.2 then ((r.find? fun t => decide (t.2 = m.2)).map fun t => (m, t)).or (hd2 r) else hd2 r
theorem hd2_cons (m : Int × Int) (r : List (Int × Int)) : hd2 (m :: r) = if 0 < m.2 then ((r.find? fun t => decide (t.2 = m.2)).map fun t => (m, t)).or (hd2 r) else hd2 r := rfl
theorem eqL_head : ∀ l : List (Int × Int), (eqL (l.filter fun m => decide (0 < m.2))).head? = hd2 l
  | [] => rfl
  | m :: r => by
    rw [List.filter_cons]
    unfold hd2
    by_cases h : 0 < m.2
    · rw [if_pos (by simpa using h), if_pos h]
      unfold eqL
      rw [List.head?_append, eqL_head r, List.head?_map, List.head?_filter, List.find?_filter]
      congr 2
      congr 1
      funext t
      rw [Bool.eq_iff_iff]
      simp
      constructor
      · rintro ⟨_, e⟩; exact e.symm
      · intro e; exact ⟨by omega, e.symm⟩
    · rw [if_neg (by simpa using h), if_neg h, eqL_head r]
def pA (rows : Std) (a k : Nat) : List (Int × Int) := (List.range k).map fun j => (2 * ((a + j : Nat) : Int), (row rows (a + j)).1)
theorem pA_succ (rows : Std) (a k : Nat) : pA rows a (k + 1) = (2 * ((a : Nat) : Int), (row rows a).1) :: pA rows (a + 1) k := by
  unfold pA
  rw [List.range_succ_eq_map, List.map_cons, List.map_map]
  congr 1
  refine List.map_congr_left fun j _ => ?_
  simp only [Function.comp]
  rw [show a + j.succ = a + 1 + j from by omega]
def fbF (rows : Std) (a k : Nat) : Option Bar := ((List.range k).find? fun j => (inn rows (a + j)).isSome).bind fun j => (inn rows (a + j)).map fun m => ((2 * ((a + j : Nat) : Int), (row rows (a + j)).1), (2 * ((a + j + 1 + m : Nat) : Int), (row rows (a + j)).1))
theorem fbF_succ (rows : Std) (a k : Nat) : fbF rows a (k + 1) = ((inn rows a).map fun m => ((2 * ((a : Nat) : Int), (row rows a).1), (2 * ((a + 1 + m : Nat) : Int), (row rows a).1))).or (fbF rows (a + 1) k) := by
  unfold fbF
  rw [List.range_succ_eq_map, List.find?_cons]
  cases h : inn rows a with
  | some m => simp [h]
  | none =>
    simp only [Nat.add_zero, h, Option.isSome_none, List.find?_map, Option.bind_map, Option.map_none, Option.none_or]
    have e : (fun j => (inn rows (a + j)).isSome) ∘ Nat.succ = fun j => (inn rows (a + 1 + j)).isSome := by
      funext j
      simp only [Function.comp]
      rw [show a + j.succ = a + 1 + j from by omega]
    rw [e]
    congr 1
    funext j
    simp only [Function.comp]
    rw [show a + j.succ = a + 1 + j from by omega]
theorem hd2_eq (rows : Std) : ∀ (k a : Nat), a + k = rows.length → hd2 (pA rows a k) = fbF rows a k
  | 0, a, _ => rfl
  | k + 1, a, h => by
    rw [pA_succ, fbF_succ, ← hd2_eq rows k (a + 1) (by omega), hd2_cons]
    unfold inn
    rw [show rows.length - 1 - a = k from by omega]
    by_cases z : 0 < (row rows a).1
    · rw [if_pos z]
      congr 1
      unfold pA
      rw [List.find?_map, Option.map_map]
      have e : (fun m => decide (0 < (row rows a).1 ∧ (row rows (a + 1 + m)).1 = (row rows a).1)) = ((fun t : Int × Int => decide (t.2 = (row rows a).1)) ∘ fun j => (2 * ((a + 1 + j : Nat) : Int), (row rows (a + 1 + j)).1)) := by
        funext m
        simp [z]
      rw [e]
      cases hf : (List.range k).find? ((fun t : Int × Int => decide (t.2 = (row rows a).1)) ∘ fun j => (2 * ((a + 1 + j : Nat) : Int), (row rows (a + 1 + j)).1)) with
      | none => rfl
      | some m =>
        have := List.find?_some hf
        simp only [Function.comp, decide_eq_true_eq] at this
        simp [this]
    · rw [if_neg z, List.find?_eq_none.mpr (fun m _ => by simp [z])]
      rfl
theorem fbF_A (rows : Std) : fbF rows 1 (rows.length - 1) = fbA rows := rfl
theorem marks_book {n : Nat} {rows : Std} (h : Nn n rows) : marks (bookOf rows) (posPl (n - 1)) = (pA rows 1 (n - 1)).filter fun m => decide (0 < m.2) := by
  have hn := h.pos
  unfold marks posPl pA
  have aux : ∀ l : List Nat, (∀ j ∈ l, j < n - 1) → (((l.map fun (j : Nat) => 2 * (1 + (j : Int))).filter fun k => decide (0 < gv (bookOf rows) k)).map fun k => (k, gv (bookOf rows) k)) = (l.map fun j => (2 * ((1 + j : Nat) : Int), (row rows (1 + j)).1)).filter fun m => decide (0 < m.2) := by
    intro l
    induction l with
    | nil => intro _; rfl
    | cons j l ih =>
      intro hj
      have e : gv (bookOf rows) (2 * (1 + (j : Int))) = (row rows (1 + j)).1 := by
        rw [gv_book h, show (2 * (1 + (j : Int))) = 2 * ((1 + j : Nat) : Int) from by omega]
        exact vl_pos (by omega) (by have := hj j (by simp); omega)
      rw [List.map_cons, List.map_cons, List.filter_cons, List.filter_cons, e]
      split
      · rw [List.map_cons, ih (fun z hz => hj z (by simp [hz])), e]
        congr 2
        all_goals omega
      · exact ih (fun z hz => hj z (by simp [hz]))
  exact aux _ fun j hj => List.mem_range.mp hj
theorem rz_apart {n : Nat} {rows : Std} (h : Nn n rows) : (eqBars (marks (bookOf rows) (posPl (n - 1)))).head? = fbA rows := by
  have hn := h.pos
  rw [eqBars_eq, marks_book h, eqL_head, hd2_eq rows (n - 1) 1 (by rw [h.len]; omega), ← fbF_A, h.len]
def wB (rows : Std) (j : Nat) : Option Bar := if mism (row rows (1 + j)) = true then some ((2 * ((1 + j : Nat) : Int), (row rows (1 + j)).1), (2 * ((1 + j : Nat) : Int) + 1, (row rows (1 + j)).2)) else none
theorem ndBars_book {n : Nat} {rows : Std} (h : Nn n rows) : ∀ m, m ≤ n - 1 → ndBars (bookOf rows) (pairsN m) = (List.range m).filterMap (wB rows)
  | 0, _ => rfl
  | m + 1, hm => by
    have hn := h.pos
    rw [pairsN_succ, List.range_succ, List.filterMap_append, ← ndBars_book h m (by omega)]
    unfold ndBars
    rw [List.filterMap_append]
    congr 1
    have e1 : gv (bookOf rows) (2 * (1 + (m : Int))) = (row rows (1 + m)).1 := by
      rw [gv_book h, show (2 * (1 + (m : Int))) = 2 * ((1 + m : Nat) : Int) from by omega]
      exact vl_pos (by omega) (by omega)
    have e2 : gv (bookOf rows) (2 * (1 + (m : Int)) + 1) = (row rows (1 + m)).2 := by
      rw [gv_book h, show (2 * (1 + (m : Int)) + 1) = 2 * ((1 + m : Nat) : Int) + 1 from by omega]
      exact vl_con (by omega) (by omega)
    have n1 := h.nn (1 + m)
    have c1 : ((1 + m : Nat) : Int) = 1 + (m : Int) := by omega
    simp only [prs, List.filterMap_cons, List.filterMap_nil, ndB, e1, e2, wB, mism, c1]
    by_cases p : 0 < (row rows (1 + m)).1
    · by_cases q : 0 < (row rows (1 + m)).2
      · have q' : ¬ (row rows (1 + m)).2 = 0 := by omega
        have p' : ¬ (row rows (1 + m)).1 = 0 := by omega
        simp [p, q, q', p']
      · have q' : (row rows (1 + m)).2 = 0 := by omega
        simp [p, q, q']
        omega
    · have p' : (row rows (1 + m)).1 = 0 := by omega
      by_cases q : 0 < (row rows (1 + m)).2
      · simp [p, q, p']
        omega
      · simp [p, q, p']
theorem ndOk_book {n : Nat} {rows : Std} (h : Nn n rows) : NdOk (bookOf rows) (n - 1) := by
  unfold NdOk
  rw [ndBars_book h _ (Nat.le_refl _), List.pairwise_filterMap]
  refine List.pairwise_lt_range.imp fun {a b} lt x hx y hy => ?_
  unfold wB at hx hy
  split at hx
  · split at hy
    · cases hx; cases hy
      show (2 * ((1 + a : Nat) : Int)) < 2 * ((1 + b : Nat) : Int)
      omega
    · cases hy
  · cases hx
theorem head_filterMap {α β : Type} (f : α → Option β) : ∀ l : List α, (l.filterMap f).head? = (l.find? fun x => (f x).isSome).bind f
  | [] => rfl
  | x :: r => by
    rw [List.filterMap_cons, List.find?_cons]
    cases h : f x with
    | none => simp [head_filterMap f r]
    | some y => simp [h]
theorem rz_whole {n : Nat} {rows : Std} (h : Nn n rows) : (ndBars (bookOf rows) (pairsN (n - 1))).head? = fbW rows := by
  rw [ndBars_book h _ (Nat.le_refl _), head_filterMap]
  unfold fbW
  rw [h.len]
  have e : (fun x => (wB rows x).isSome) = fun j => mism (row rows (1 + j)) := by
    funext x
    unfold wB
    cases h2 : mism (row rows (1 + x)) <;> simp
  rw [e]
  cases hf : (List.range (n - 1)).find? fun j => mism (row rows (1 + j)) with
  | none => rfl
  | some j =>
    have : mism (row rows (1 + j)) = true := List.find?_some (p := fun j => mism (row rows (1 + j))) hf
    simp [wB, this]
theorem hd2_none : ∀ {l : List (Int × Int)}, hd2 l = none ↔ ((l.map (·.2)).filter fun k => decide (0 < k)).Nodup
  | [] => by simp [hd2]
  | m :: r => by
    rw [List.map_cons, List.filter_cons]
    unfold hd2
    by_cases z : 0 < m.2
    · rw [if_pos z, if_pos (by simpa using z), List.nodup_cons, ← hd2_none, Option.or_eq_none_iff, Option.map_eq_none_iff, List.find?_eq_none]
      constructor
      · rintro ⟨h1, h2⟩
        refine ⟨fun hm => ?_, h2⟩
        obtain ⟨t, ht, e⟩ := List.mem_map.mp (List.mem_filter.mp hm).1
        exact h1 t ht (by simpa using e)
      · rintro ⟨h1, h2⟩
        refine ⟨fun t ht e => h1 ?_, h2⟩
        have e' : t.2 = m.2 := by simpa using e
        exact List.mem_filter.mpr ⟨List.mem_map.mpr ⟨t, ht, e'⟩, by simpa using z⟩
    · rw [if_neg z, if_neg (by simpa using z), hd2_none]
theorem posL_eq {n : Nat} {rows : Std} (h : Nn n rows) : posL rows = ((pA rows 1 (n - 1)).map (·.2)).filter fun k => decide (0 < k) := by
  have hn := h.pos
  have e : rows.map (·.1) = 0 :: (pA rows 1 (n - 1)).map (·.2) := by
    have e2 : (0 : Int) :: (pA rows 1 (n - 1)).map (·.2) = (List.range n).map fun i => (row rows i).1 := by
      obtain ⟨m, rfl⟩ : ∃ m, n = m + 1 := ⟨n - 1, by omega⟩
      rw [List.range_succ_eq_map, List.map_cons, List.map_map, h.zero]
      congr 1
      show (pA rows 1 m).map (·.2) = _
      unfold pA
      rw [List.map_map]
      refine List.map_congr_left fun j _ => ?_
      simp only [Function.comp]
      rw [show 1 + j = j.succ from by omega]
    rw [e2]
    refine List.ext_getElem? fun i => ?_
    rw [List.getElem?_map, List.getElem?_map]
    by_cases z : i < n
    · rw [range_get z, row_get (by rw [h.len]; exact z)]
      rfl
    · rw [List.getElem?_eq_none (by rw [h.len]; omega), List.getElem?_eq_none (by simp; omega)]
      rfl
  unfold posL
  rw [e, List.filter_cons, if_neg (by simp)]
theorem fbA_none {n : Nat} {rows : Std} (h : Nn n rows) : fbA rows = none ↔ (posL rows).Nodup := by
  have hn := h.pos
  rw [posL_eq h, ← hd2_none, hd2_eq rows (n - 1) 1 (by rw [h.len]; omega), ← fbF_A, h.len]
theorem fbW_none {n : Nat} {rows : Std} (h : Nn n rows) : fbW rows = none ↔ offL rows = [] := by
  have hn := h.pos
  unfold fbW offL
  rw [h.len, Option.map_eq_none_iff, List.find?_eq_none, List.filter_eq_nil_iff]
  constructor
  · intro z r hr e
    obtain ⟨i, hi⟩ := List.mem_iff_getElem?.mp hr
    have hl : i < n := by rw [← h.len]; exact (List.getElem?_eq_some_iff.mp hi).1
    have := row_of hi
    subst this
    cases i with
    | zero => rw [h.zero] at e; revert e; decide
    | succ i =>
      refine z i (List.mem_range.mpr (by omega)) ?_
      rw [show 1 + i = i + 1 from by omega]
      exact e
  · intro z j hj e
    have := List.mem_range.mp hj
    exact z _ (row_mem (i := 1 + j) (by rw [h.len]; omega)) e
/-- what the rulebook tells of the book of rows is what is broken in the rows -/
theorem rz_spec {n : Nat} {rows : Std} (h : Nn n rows) : (brk rows = "" ∧ rz (bookOf rows) (n - 1) = none) ∨ ∃ br, brk rows ≠ "" ∧ rz (bookOf rows) (n - 1) = some (brk rows, br) ∧ FB rows (brk rows) br := by
  have a := rz_apart h
  have b := rz_whole h
  have c := fbA_none h
  have d := fbW_none h
  unfold rz
  rw [a, b]
  unfold brk FB
  cases h1 : fbA rows with
  | some br =>
    have nd : ¬ (posL rows).Nodup := fun z => by rw [c.mpr z] at h1; cases h1
    right
    rw [if_pos nd]
    exact ⟨br, by decide, rfl, .inr ⟨rfl, rfl⟩⟩
  | none =>
    rw [if_neg (fun z => z (c.mp h1))]
    cases h2 : fbW rows with
    | some br =>
      have nd : offL rows ≠ [] := fun z => by rw [d.mpr z] at h2; cases h2
      right
      rw [if_pos nd]
      exact ⟨br, by decide, rfl, .inl ⟨rfl, rfl⟩⟩
    | none =>
      rw [if_neg (fun z => z (d.mp h2))]
      exact .inl ⟨rfl, rfl⟩
/-- lawful rows, with any bounds -/
structure Lf (n : Nat) (rows : Std) : Prop where
  nn : Nn n rows
  inj : Inj rows
  both : ∀ i, 0 < (row rows i).1 ↔ 0 < (row rows i).2
theorem Lw.lf {n : Nat} {rows : Std} (h : Lw n rows) (hn : 0 < n) : Lf n rows := ⟨⟨h.g.len, hn, h.g.zero, fun i => ⟨(h.g.bd i).1, (h.g.bd i).2.2.1⟩⟩, h.inj, h.both⟩
theorem Lf.brk {n : Nat} {rows : Std} (h : Lf n rows) : brk rows = "" := by
  have nd : (posL rows).Nodup := by
    unfold posL
    rw [List.nodup_iff_pairwise_ne, List.pairwise_filter, List.pairwise_map, List.pairwise_iff_getElem]
    intro i j hi hj lt p q e
    have e1 : row rows i = rows[i] := row_of (by simp [hi])
    have e2 : row rows j = rows[j] := row_of (by simp [hj])
    have := h.inj i j (by rw [e1]; simpa using p) (by rw [e1, e2]; exact e)
    omega
  have off : offL rows = [] := by
    unfold offL
    rw [List.filter_eq_nil_iff]
    intro r hr e
    obtain ⟨i, hi⟩ := List.mem_iff_getElem?.mp hr
    have := row_of hi
    subst this
    have := h.both i
    simp only [decide_eq_true_eq, ne_eq, decide_eq_decide] at e
    exact e this
  unfold K80.brk
  rw [if_neg (fun z => z nd), if_neg (fun z => z off)]
theorem lf_of_brk {n : Nat} {rows : Std} (g : Nn n rows) (h : brk rows = "") : Lf n rows := by
  have a := rz_spec g
  have nd : (posL rows).Nodup := Classical.byContradiction fun z => by
    unfold brk at h; rw [if_pos z] at h; cases h
  have off : offL rows = [] := Classical.byContradiction fun z => by
    unfold brk at h; rw [if_neg (fun y => y nd), if_pos z] at h; cases h
  have out : ∀ i, ¬ i < rows.length → row rows i = (0, 0) := fun i hi => by unfold row; rw [List.getElem?_eq_none (by omega)]; rfl
  have key : ∀ i j, i < j → j < rows.length → 0 < (row rows i).1 → (row rows i).1 ≠ (row rows j).1 := by
    intro i j lt hj p e
    unfold posL at nd
    rw [List.nodup_iff_pairwise_ne, List.pairwise_filter, List.pairwise_map, List.pairwise_iff_getElem] at nd
    have e1 : row rows i = rows[i] := row_of (by simp [show i < rows.length from by omega])
    have e2 : row rows j = rows[j] := row_of (by simp [hj])
    rw [e1] at p
    rw [e1, e2] at e
    exact nd i j (by omega) hj lt (by simpa using p) (by simpa [← e] using p) e
  refine ⟨g, fun i j hp he => ?_, fun i => ?_⟩
  · have hi : i < rows.length := Classical.byContradiction fun z => by rw [out i z] at hp; exact absurd hp (by decide)
    have hj : j < rows.length := Classical.byContradiction fun z => by rw [he, out j z] at hp; exact absurd hp (by decide)
    refine Classical.byContradiction fun ne => ?_
    rcases Nat.lt_or_gt_of_ne ne with lt | gt
    · exact key i j lt hj hp he
    · exact key j i gt hi (by rw [← he]; exact hp) he.symm
  · by_cases hi : i < rows.length
    · refine Classical.byContradiction fun ne => ?_
      have : row rows i ∈ offL rows := by
        unfold offL
        rw [List.mem_filter]
        refine ⟨row_mem hi, decide_eq_true fun e => ne ?_⟩
        rw [decide_eq_decide] at e
        exact e
      rw [off] at this
      cases this
    · rw [out i hi]
theorem lawB {n : Nat} {rows : Std} (h : Lf n rows) : LawB (bookOf rows) (n - 1) := by
  refine ⟨ndOk_book h.nn, ?_⟩
  rcases rz_spec h.nn with ⟨_, h2⟩ | ⟨br, h2, _⟩
  · exact h2
  · exact absurd h.brk h2
/-! ### merging of books -/
theorem mem_keysB {l1 l2 : List (Int × Int)} {q : Int} : q ∈ keysB l1 l2 ↔ q ∈ l1.map (·.1) ∨ q ∈ l2.map (·.1) := by
  unfold keysB
  rw [mem_srt, List.mem_append]
section
variable {n : Nat} {r0 r1 r2 : Std}
theorem mvB_book (h0 : Nn n r0) (h1 : Nn n r1) (h2 : Nn n r2) (q : Int) : mvB (bookOf r0) (bookOf r1) (bookOf r2) q = mval (vl n r0 q) (vl n r1 q) (vl n r2 q) := by
  unfold mvB
  rw [gv_book h0, gv_book h1, gv_book h2]
theorem not_key (h1 : Nn n r1) (h2 : Nn n r2) {q : Int} (h : q ∉ keysB (bookOf r1) (bookOf r2)) : vl n r1 q = 0 ∧ vl n r2 q = 0 := by
  rw [mem_keysB, not_or, ← get_none, ← get_none] at h
  rw [← gv_book h1, ← gv_book h2]
  unfold gv
  rw [h.1, h.2]
  exact ⟨rfl, rfl⟩
theorem mem_mrgB (h0 : Nn n r0) (h1 : Nn n r1) (h2 : Nn n r2) {q v : Int} : (q, v) ∈ mrgB (bookOf r0) (bookOf r1) (bookOf r2) ↔ 0 < v ∧ mval (vl n r0 q) (vl n r1 q) (vl n r2 q) = some v := by
  unfold mrgB
  rw [List.mem_filterMap]
  constructor
  · rintro ⟨k, _, h⟩
    unfold putB at h
    rw [mvB_book h0 h1 h2] at h
    split at h
    · rename_i v' e
      split at h
      · cases h; exact ⟨by assumption, e⟩
      · cases h
    · cases h
  · rintro ⟨hv, h⟩
    refine ⟨q, Classical.byContradiction fun z => ?_, ?_⟩
    · obtain ⟨z1, z2⟩ := not_key h1 h2 z
      rw [z1, z2] at h
      unfold mval at h
      rw [if_pos rfl] at h
      cases h
      omega
    · unfold putB
      rw [mvB_book h0 h1 h2, h]
      simp [hv]
theorem mem_clsB (h0 : Nn n r0) (h1 : Nn n r1) (h2 : Nn n r2) {q : Int} : q ∈ clsB (bookOf r0) (bookOf r1) (bookOf r2) ↔ mval (vl n r0 q) (vl n r1 q) (vl n r2 q) = none := by
  unfold clsB
  rw [List.mem_filter, mvB_book h0 h1 h2, Option.isNone_iff_eq_none]
  refine ⟨And.right, fun h => ⟨Classical.byContradiction fun z => ?_, h⟩⟩
  obtain ⟨z1, z2⟩ := not_key h1 h2 z
  rw [z1, z2] at h
  unfold mval at h
  rw [if_pos rfl] at h
  cases h
theorem clsB_sorted (l0 l1 l2 : List (Int × Int)) : (clsB l0 l1 l2).Pairwise (· < ·) := (pw_srt _).filter _
theorem mvS_vl {i s : Nat} (h1 : 1 ≤ i) (h2 : i < n) (h3 : s < 2) : mvS r0 r1 r2 (i, s) = mval (vl n r0 (2 * (i : Int) + (s : Int))) (vl n r1 (2 * (i : Int) + (s : Int))) (vl n r2 (2 * (i : Int) + (s : Int))) := by
  rw [vl_at h1 h2 h3, vl_at h1 h2 h3, vl_at h1 h2 h3]
  rfl
theorem mem_plc {m : Nat} {q : Nat × Nat} : q ∈ plc m ↔ 1 ≤ q.1 ∧ q.1 ≤ m ∧ q.2 < 2 := by
  unfold plc
  rw [List.mem_flatMap]
  constructor
  · rintro ⟨j, hj, h⟩
    have := List.mem_range.mp hj
    simp at h
    rcases h with rfl | rfl <;> exact ⟨by simp only; omega, by simp only; omega, by simp⟩
  · rintro ⟨h1, h2, h3⟩
    obtain ⟨i, s⟩ := q
    simp only at h1 h2 h3
    refine ⟨i - 1, List.mem_range.mpr (by omega), ?_⟩
    rw [show 1 + (i - 1) = i from by omega]
    match s, h3 with
    | 0, _ => simp
    | 1, _ => simp
theorem vl_out {rows : Std} {q : Int} (h : ¬ (2 ≤ q ∧ q < 2 * (n : Int))) : vl n rows q = 0 := by unfold vl; rw [if_neg h]
theorem mval_zero : mval 0 0 0 = some 0 := rfl
/-- no place clashes in the rows: none in the books -/
theorem cls_none (h0 : Nn n r0) (h1 : Nn n r1) (h2 : Nn n r2) (h : clashS r0 r1 r2 = none) : clsB (bookOf r0) (bookOf r1) (bookOf r2) = [] := by
  have hn := h0.pos
  refine List.eq_nil_iff_forall_not_mem.mpr fun q hq => ?_
  rw [mem_clsB h0 h1 h2] at hq
  by_cases z : 2 ≤ q ∧ q < 2 * (n : Int)
  · obtain ⟨i, s, e1, e2, e3, rfl⟩ := place_split z
    rw [← mvS_vl e1 e2 e3] at hq
    unfold clashS at h
    rw [h0.len, List.find?_eq_none] at h
    exact h (i, s) (mem_plc.mpr ⟨e1, by simp only; omega, e3⟩) (by rw [hq]; rfl)
  · rw [vl_out z, vl_out z, vl_out z] at hq
    cases hq
theorem plc_sorted : ∀ m, (plc m).Pairwise fun a b => 2 * a.1 + a.2 < 2 * b.1 + b.2
  | 0 => .nil
  | m + 1 => by
    rw [plc_succ]
    refine List.pairwise_append.mpr ⟨plc_sorted m, by simp, fun a ha b hb => ?_⟩
    have := mem_plc.mp ha
    simp at hb
    rcases hb with rfl | rfl <;> simp only <;> omega
theorem find_first {α : Type} {p : α → Bool} {m : α → Nat} : ∀ {l : List α} {x : α}, l.Pairwise (fun a b => m a < m b) → l.find? p = some x → ∀ y ∈ l, p y = true → m x ≤ m y
  | [], _, _, h => by cases h
  | z :: r, x, pw, h => by
    intro y hy py
    have h1 := List.pairwise_cons.mp pw
    rw [List.find?_cons] at h
    split at h
    · cases h
      rcases List.mem_cons.mp hy with rfl | hy
      · exact Nat.le_refl _
      · exact Nat.le_of_lt (h1.1 y hy)
    · rename_i nz
      rcases List.mem_cons.mp hy with rfl | hy
      · rw [nz] at py; cases py
      · exact find_first h1.2 h y hy py
theorem cls_some (h0 : Nn n r0) (h1 : Nn n r1) (h2 : Nn n r2) {i s : Nat} (h : clashS r0 r1 r2 = some (i, s)) : (1 ≤ i ∧ i < n ∧ s < 2) ∧ ∃ r, clsB (bookOf r0) (bookOf r1) (bookOf r2) = (2 * (i : Int) + (s : Int)) :: r := by
  have hn := h0.pos
  unfold clashS at h
  rw [h0.len] at h
  have hm := mem_plc.mp (List.mem_of_find?_eq_some h)
  have e1 : 1 ≤ i := hm.1
  have e2 : i < n := by have := hm.2.1; simp only at this; omega
  have e3 : s < 2 := hm.2.2
  refine ⟨⟨e1, e2, e3⟩, ?_⟩
  have hp := List.find?_some h
  simp only [Option.isNone_iff_eq_none] at hp
  have hin : (2 * (i : Int) + (s : Int)) ∈ clsB (bookOf r0) (bookOf r1) (bookOf r2) := by
    rw [mem_clsB h0 h1 h2, ← mvS_vl e1 e2 e3]
    exact hp
  have least : ∀ q ∈ clsB (bookOf r0) (bookOf r1) (bookOf r2), 2 * (i : Int) + (s : Int) ≤ q := by
    intro q hq
    rw [mem_clsB h0 h1 h2] at hq
    by_cases z : 2 ≤ q ∧ q < 2 * (n : Int)
    · obtain ⟨i', s', d1, d2, d3, rfl⟩ := place_split z
      rw [← mvS_vl d1 d2 d3] at hq
      have := find_first (plc_sorted _) h (i', s') (mem_plc.mpr ⟨d1, by simp only; omega, d3⟩) (by rw [hq]; rfl)
      simp only at this
      omega
    · rw [vl_out z, vl_out z, vl_out z] at hq
      cases hq
  have pw := clsB_sorted (bookOf r0) (bookOf r1) (bookOf r2)
  cases hl : clsB (bookOf r0) (bookOf r1) (bookOf r2) with
  | nil => rw [hl] at hin; cases hin
  | cons x r =>
    rw [hl] at hin least pw
    have hx := least x (by simp)
    rcases List.mem_cons.mp hin with e | hr
    · exact ⟨r, by rw [e]⟩
    · have := (List.pairwise_cons.mp pw).1 _ hr
      omega
theorem gv_at {rows : Std} (h : Nn n rows) {i s : Nat} (e1 : 1 ≤ i) (e2 : i < n) (e3 : s < 2) : gv (bookOf rows) (2 * (i : Int) + (s : Int)) = sd (row rows i) s := by rw [gv_book h, vl_at e1 e2 e3]
theorem mval_nn {b o t v : Int} (hb : 0 ≤ b) (ho : 0 ≤ o) (ht : 0 ≤ t) (h : mval b o t = some v) : 0 ≤ v := by
  unfold mval at h
  split at h
  · cases h; exact ho
  · split at h
    · cases h; exact ht
    · split at h
      · cases h; exact ho
      · cases h
theorem mrg_row (h0 : Nn n r0) {i : Nat} (h1 : 1 ≤ i) (h2 : i < n) : row (mrgS r0 r1 r2) i = mrow r0 r1 r2 i := by
  refine row_of ?_
  unfold mrgS mrgTo
  obtain ⟨j, rfl⟩ : ∃ j, i = j + 1 := ⟨i - 1, by omega⟩
  rw [List.getElem?_cons_succ, List.getElem?_map, h0.len, range_get (by omega)]
  show some (mrow r0 r1 r2 (1 + j)) = _
  rw [show 1 + j = j + 1 from by omega]
theorem mrg_nn (h0 : Nn n r0) (h1 : Nn n r1) (h2 : Nn n r2) : Nn n (mrgS r0 r1 r2) := by
  have hn := h0.pos
  have len : (mrgS r0 r1 r2).length = n := by unfold mrgS; rw [mrgTo_len, h0.len]; omega
  refine ⟨len, hn, rfl, fun i => ?_⟩
  by_cases z : i < n
  · cases i with
    | zero => exact ⟨Int.le_refl 0, Int.le_refl 0⟩
    | succ i =>
      rw [mrg_row h0 (by omega) z]
      have key : ∀ s, s < 2 → 0 ≤ (mvS r0 r1 r2 (i + 1, s)).getD 0 := by
        intro s hs
        cases e : mvS r0 r1 r2 (i + 1, s) with
        | none => decide
        | some v =>
          rw [mvS_vl (n := n) (by omega) z hs] at e
          exact mval_nn (h0.vl _) (h1.vl _) (h2.vl _) e
      exact ⟨key 0 (by omega), key 1 (by omega)⟩
  · have : row (mrgS r0 r1 r2) i = (0, 0) := by unfold row; rw [List.getElem?_eq_none (by rw [len]; omega)]; rfl
    rw [this]
    decide
theorem vl_mrg (h0 : Nn n r0) (h : clashS r0 r1 r2 = none) (q : Int) : mval (vl n r0 q) (vl n r1 q) (vl n r2 q) = some (vl n (mrgS r0 r1 r2) q) := by
  by_cases z : 2 ≤ q ∧ q < 2 * (n : Int)
  · obtain ⟨i, s, d1, d2, d3, rfl⟩ := place_split z
    rw [← mvS_vl d1 d2 d3, vl_at d1 d2 d3, mrg_row h0 d1 d2]
    unfold clashS at h
    rw [h0.len, List.find?_eq_none] at h
    have := h (i, s) (mem_plc.mpr ⟨d1, by simp only; omega, d3⟩)
    cases e : mvS r0 r1 r2 (i, s) with
    | none => rw [e] at this; simp at this
    | some v =>
      match s, d3 with
      | 0, _ => simp [mrow, sd, e]
      | 1, _ => simp [mrow, sd, e]
  · rw [vl_out z, vl_out z, vl_out z, vl_out z]
    rfl
/-- no clash: the merged book is the book of the merged rows -/
theorem mrgB_eq (h0 : Nn n r0) (h1 : Nn n r1) (h2 : Nn n r2) (h : clashS r0 r1 r2 = none) : mrgB (bookOf r0) (bookOf r1) (bookOf r2) = bookOf (mrgS r0 r1 r2) := by
  refine sorted_ext (sorted_filterMap _ ?_ (pw_srt _)) (book_sorted _) fun e => ?_
  · intro q e he
    unfold putB at he
    split at he
    · split at he
      · cases he; rfl
      · cases he
    · cases he
  · obtain ⟨q, v⟩ := e
    rw [mem_mrgB h0 h1 h2, vl_mrg h0 h, tells_book (mrg_nn h0 h1 h2) q v]
    constructor
    · rintro ⟨a, b⟩; cases b; exact ⟨a, rfl⟩
    · rintro ⟨a, rfl⟩; exact ⟨a, rfl⟩
end
/-- the merged book, also where places clash -/
theorem ndOk_mrgB {n : Nat} {r0 r1 r2 : Std} (h0 : Nn n r0) (h1 : Nn n r1) (h2 : Nn n r2) : NdOk (mrgB (bookOf r0) (bookOf r1) (bookOf r2)) (n - 1) := by
  have g := mrg_nn h0 h1 h2
  -- it is the book of rows, too: those with 0 where places clash
  have e : mrgB (bookOf r0) (bookOf r1) (bookOf r2) = bookOf (mrgS r0 r1 r2) := by
    refine sorted_ext (sorted_filterMap _ ?_ (pw_srt _)) (book_sorted _) fun e => ?_
    · intro q e he
      unfold putB at he
      split at he
      · split at he
        · cases he; rfl
        · cases he
      · cases he
    · obtain ⟨q, v⟩ := e
      rw [mem_mrgB h0 h1 h2, tells_book g q v]
      by_cases z : 2 ≤ q ∧ q < 2 * (n : Int)
      · obtain ⟨i, s, d1, d2, d3, rfl⟩ := place_split z
        rw [← mvS_vl d1 d2 d3, vl_at d1 d2 d3, mrg_row h0 d1 d2]
        have : sd (mrow r0 r1 r2 i) s = (mvS r0 r1 r2 (i, s)).getD 0 := by
          match s, d3 with
          | 0, _ => rfl
          | 1, _ => rfl
        rw [this]
        cases e : mvS r0 r1 r2 (i, s) with
        | none => simp; omega
        | some w => simp; intro _; exact eq_comm
      · rw [vl_out z, vl_out z, vl_out z, vl_out z, mval_zero]
        simp
        intro _
        exact eq_comm
  rw [e]
  exact ndOk_book g
end K80
end
section
set_option maxHeartbeats 4000000
/-! Plain matters: arrangements, merged position by position. -/
namespace K80
open PySem PySem.Spec PyProof.Rows L2 Inf
/-! ### the arrangement of rows -/
theorem mem_arrD {n : Nat} {rows : Std} (h : Nn n rows) {e : Int × (Int × Int)} : e ∈ arrD rows ↔ ∃ i : Nat, 1 ≤ i ∧ i < n ∧ 0 < (row rows i).1 ∧ e = ((row rows i).1, ((i : Int), (row rows i).2)) := by
  have hn := h.pos
  unfold arrD
  constructor
  · intro m
    obtain ⟨j, h1, h2, h3⟩ := mem_arrTo m
    rw [h.len] at h1 h2 h3
    exact ⟨n - 1 - j, by omega, by omega, h2, h3⟩
  · rintro ⟨i, h1, h2, h3, rfl⟩
    unfold arrTo
    rw [List.mem_filterMap, h.len]
    refine ⟨n - 1 - i, List.mem_range.mpr (by omega), ?_⟩
    rw [show n - 1 - (n - 1 - i) = i from by omega]
    unfold arE
    rw [if_pos h3]
theorem arr_nodup {n : Nat} {rows : Std} (h : Lf n rows) : ((arrD rows).map (·.1)).Nodup := by
  have hn := h.nn.pos
  unfold arrD arrTo
  rw [List.nodup_iff_pairwise_ne, List.pairwise_map, List.pairwise_filterMap, h.nn.len]
  refine (List.Pairwise.and_mem.mp (List.pairwise_lt_range (n := n - 1))).imp ?_
  rintro a b ⟨ha, hb, lt⟩ x hx y hy e
  have ha := List.mem_range.mp ha
  have hb := List.mem_range.mp hb
  unfold arE at hx hy
  split at hx
  · split at hy
    · cases hx; cases hy
      have := h.inj (n - 1 - a) (n - 1 - b) (by assumption) e
      omega
    · cases hy
  · cases hx
theorem arr_len {n : Nat} {rows : Std} (h : Nn n rows) : (arrD rows).length ≤ n - 1 := by
  unfold arrD
  rw [h.len]
  exact arrTo_len _ _
/-- what a list by keys tells -/
structure GK (n : Nat) (rows : Std) (g : Int → Option (Int × Int)) : Prop where
  up : ∀ p e, g p = some e → ∃ i : Nat, 1 ≤ i ∧ i < n ∧ 0 < p ∧ e = ((i : Int), (row rows i).2) ∧ p = (row rows i).1
  dn : ∀ i : Nat, 1 ≤ i → i < n → 0 < (row rows i).1 → g (row rows i).1 = some ((i : Int), (row rows i).2)
theorem mem_get {α : Type} {l : List (Int × α)} {p : Int} {v : α} (nd : (l.map (·.1)).Nodup) : get l p = some v ↔ (p, v) ∈ l := by
  refine ⟨fun h => ?_, get_of_mem nd⟩
  by_cases m : p ∈ l.map (·.1)
  · obtain ⟨e, he, rfl⟩ := List.mem_map.mp m
    rw [get_of_mem nd (show (e.1, e.2) ∈ l from he)] at h
    cases h
    exact he
  · rw [get_none.mpr m] at h
    cases h
theorem gk_arr {n : Nat} {rows : Std} (h : Lf n rows) : GK n rows (get (arrD rows)) := by
  refine ⟨fun p e he => ?_, fun i h1 h2 h3 => ?_⟩
  · rw [mem_get (arr_nodup h), mem_arrD h.nn] at he
    obtain ⟨i, h1, h2, h3, h4⟩ := he
    cases h4
    exact ⟨i, h1, h2, h3, rfl, rfl⟩
  · rw [mem_get (arr_nodup h), mem_arrD h.nn]
    exact ⟨i, h1, h2, h3, rfl⟩
theorem GK.row {n : Nat} {rows : Std} {g : Int → Option (Int × Int)} (h : GK n rows g) {p : Int} {i : Nat} {c : Int} (e : g p = some ((i : Int), c)) : 1 ≤ i ∧ i < n ∧ 0 < p ∧ p = (row rows i).1 ∧ c = (row rows i).2 := by
  obtain ⟨j, h1, h2, h3, h4, h5⟩ := h.up p _ e
  have : i = j := by have := congrArg Prod.fst h4; simp only at this; omega
  subst this
  exact ⟨h1, h2, h3, h5, congrArg Prod.snd h4⟩
/-- the item is not there -/
theorem GK.not {n : Nat} {rows : Std} {g : Int → Option (Int × Int)} (h : GK n rows g) {p : Int} {i : Nat} (e : (K80.row rows i).1 ≠ p) (c : Int) : g p ≠ some ((i : Int), c) := fun z => e (h.row z).2.2.2.1.symm
/-! ### merging -/
section
variable {n : Nat} {r0 r1 r2 : Std} {g0 g1 g2 : Int → Option (Int × Int)}
def chs (g0 g1 g2 : Int → Option (Int × Int)) (p : Int) : Option (Int × Int) := if g1 p = g2 p ∨ g2 p = g0 p then g1 p else g2 p
/-- no clash -/
def NoC (g0 g1 g2 : Int → Option (Int × Int)) : Prop := ∀ p, g1 p = g2 p ∨ g2 p = g0 p ∨ g1 p = g0 p
theorem chs_or (g0 g1 g2 : Int → Option (Int × Int)) (p : Int) : chs g0 g1 g2 p = g1 p ∨ chs g0 g1 g2 p = g2 p := by
  unfold chs
  split
  · exact .inl rfl
  · exact .inr rfl
theorem NoC.sym (h : NoC g0 g1 g2) : NoC g0 g2 g1 := fun p => by
  rcases h p with e | e | e
  · exact .inl e.symm
  · exact .inr (.inr e)
  · exact .inr (.inl e)
theorem chs_sym (h : NoC g0 g1 g2) (p : Int) : chs g0 g2 g1 p = chs g0 g1 g2 p := by
  show (if g2 p = g1 p ∨ g1 p = g0 p then g2 p else g1 p) = if g1 p = g2 p ∨ g2 p = g0 p then g1 p else g2 p
  by_cases a : g1 p = g2 p
  · rw [if_pos (Or.inl a.symm), if_pos (Or.inl a), a]
  · by_cases b : g2 p = g0 p
    · have c : g1 p ≠ g0 p := fun c => a (c.trans b.symm)
      rw [if_neg (fun z : g2 p = g1 p ∨ g1 p = g0 p => z.elim (fun y => a y.symm) c), if_pos (Or.inr b)]
    · rcases h p with e | e | e
      · exact absurd e a
      · exact absurd e b
      · rw [if_pos (Or.inr e), if_neg (fun z : g1 p = g2 p ∨ g2 p = g0 p => z.elim a b)]
variable (G0 : GK n r0 g0) (G1 : GK n r1 g1) (G2 : GK n r2 g2) (hc : NoC g0 g1 g2)
include G0 G1 G2 hc
/-- an item that the second put elsewhere stays where the first put it exactly if the first moved it -/
theorem stays {i : Nat} (h1 : 1 ≤ i) (h2 : i < n) (p1 : 0 < (row r1 i).1) (ne : (row r2 i).1 ≠ (row r1 i).1) : chs g0 g1 g2 (row r1 i).1 = g1 (row r1 i).1 ↔ (row r1 i).1 ≠ (row r0 i).1 := by
  have d1 := G1.dn i h1 h2 p1
  have d2 : g2 (row r1 i).1 ≠ g1 (row r1 i).1 := by rw [d1]; exact G2.not ne _
  constructor
  · intro h e
    have d0 : g0 (row r1 i).1 ≠ g2 (row r1 i).1 := by
      rw [e, G0.dn i h1 h2 (by rw [← e]; exact p1), ← e]
      exact fun z => G2.not ne _ z.symm
    unfold chs at h
    rw [if_neg (fun z => z.elim (fun y => d2 y.symm) (fun y => d0 y.symm))] at h
    exact d2 h
  · intro ne0
    have d0 : g0 (row r1 i).1 ≠ g1 (row r1 i).1 := by rw [d1]; exact G0.not (fun z => ne0 z.symm) _
    unfold chs
    rcases hc (row r1 i).1 with e | e | e
    · exact absurd e.symm d2
    · rw [if_pos (.inr e)]
    · exact absurd e.symm d0
/-- the entries of an item -/
theorem chs_item {p : Int} {i : Nat} {c : Int} (h : chs g0 g1 g2 p = some ((i : Int), c)) : 1 ≤ i ∧ i < n ∧ 0 < p ∧ ((p = (row r1 i).1 ∧ chs g0 g1 g2 p = g1 p) ∨ (p = (row r2 i).1 ∧ chs g0 g1 g2 p = g2 p)) := by
  rcases chs_or g0 g1 g2 p with e | e
  · rw [e] at h
    obtain ⟨a, b, c, d, _⟩ := G1.row h
    exact ⟨a, b, c, .inl ⟨d, e⟩⟩
  · rw [e] at h
    obtain ⟨a, b, c, d, _⟩ := G2.row h
    exact ⟨a, b, c, .inr ⟨d, e⟩⟩
/-- an item that stands in both stands in the merge -/
theorem stands {i : Nat} (h1 : 1 ≤ i) (h2 : i < n) (p1 : 0 < (row r1 i).1) (p2 : 0 < (row r2 i).1) : ∃ p c, chs g0 g1 g2 p = some ((i : Int), c) := by
  have d1 := G1.dn i h1 h2 p1
  have d2 := G2.dn i h1 h2 p2
  by_cases e : (row r2 i).1 = (row r1 i).1
  · rw [e] at d2
    rcases chs_or g0 g1 g2 (row r1 i).1 with z | z
    · exact ⟨_, _, z.trans d1⟩
    · exact ⟨_, _, z.trans d2⟩
  · by_cases f : (row r1 i).1 = (row r0 i).1
    · have := (stays G0 G2 G1 hc.sym h1 h2 p2 (fun z => e z.symm)).mpr (fun z => e (z.trans f.symm))
      rw [chs_sym hc] at this
      exact ⟨_, _, this.trans d2⟩
    · exact ⟨_, _, ((stays G0 G1 G2 hc h1 h2 p1 e).mpr f).trans d1⟩
/-- an item stands twice exactly if both moved it, to two positions -/
theorem twice_iff (i : Nat) : (1 ≤ i ∧ i < n ∧ twc r0 r1 r2 i = true) ↔ ∃ p c p' c', p ≠ p' ∧ chs g0 g1 g2 p = some ((i : Int), c) ∧ chs g0 g1 g2 p' = some ((i : Int), c') := by
  unfold twc
  rw [decide_eq_true_eq]
  have both : ∀ p p' c c', p = (row r1 i).1 → p' = (row r2 i).1 → p ≠ p' → chs g0 g1 g2 p = some ((i : Int), c) → chs g0 g1 g2 p' = some ((i : Int), c') → 1 ≤ i ∧ i < n ∧ (0 < (row r1 i).1 ∧ 0 < (row r2 i).1 ∧ (row r1 i).1 ≠ (row r2 i).1 ∧ (row r1 i).1 ≠ (row r0 i).1 ∧ (row r2 i).1 ≠ (row r0 i).1) := by
    rintro p p' c c' rfl rfl ne e e'
    obtain ⟨a, b, d, f⟩ := chs_item G0 G1 G2 hc e
    obtain ⟨_, _, d', f'⟩ := chs_item G0 G1 G2 hc e'
    refine ⟨a, b, d, d', ne, (stays G0 G1 G2 hc a b d (fun z => ne z.symm)).mp ?_, (stays G0 G2 G1 hc.sym a b d' ne).mp ?_⟩
    · rcases f with ⟨_, f⟩ | ⟨f, _⟩
      · exact f
      · exact absurd f ne
    · rw [chs_sym hc]
      rcases f' with ⟨f', _⟩ | ⟨_, f'⟩
      · exact absurd f'.symm ne
      · exact f'
  constructor
  · rintro ⟨h1, h2, p1, p2, ne, m1, m2⟩
    refine ⟨_, (row r1 i).2, _, (row r2 i).2, ne, ((stays G0 G1 G2 hc h1 h2 p1 (fun z => ne z.symm)).mpr m1).trans (G1.dn i h1 h2 p1), ?_⟩
    have := (stays G0 G2 G1 hc.sym h1 h2 p2 ne).mpr m2
    rw [chs_sym hc] at this
    exact this.trans (G2.dn i h1 h2 p2)
  · rintro ⟨p, c, p', c', ne, e, e'⟩
    obtain ⟨a, b, d, f⟩ := chs_item G0 G1 G2 hc e
    obtain ⟨_, _, d', f'⟩ := chs_item G0 G1 G2 hc e'
    rcases f with ⟨f, _⟩ | ⟨f, _⟩
    · rcases f' with ⟨f', _⟩ | ⟨f', _⟩
      · exact absurd (f.trans f'.symm) ne
      · exact both p p' c c' f f' ne e e'
    · rcases f' with ⟨f', _⟩ | ⟨f', _⟩
      · exact both p' p c' c f' f (fun z => ne z.symm) e' e
      · exact absurd (f.trans f'.symm) ne
end
/-! ### both merges go -/
section
variable {n : Nat} {r0 r1 r2 : Std} {g0 g1 g2 : Int → Option (Int × Int)}
/-- the position and the content of an item, merged -/
def Mg (r0 r1 r2 : Std) (i : Nat) (p c : Int) : Prop := mval (row r0 i).1 (row r1 i).1 (row r2 i).1 = some p ∧ mval (row r0 i).2 (row r1 i).2 (row r2 i).2 = some c
theorem mval_eq {b o t v : Int} (h : mval b o t = some v) : (o = t ∧ v = o) ∨ (o ≠ t ∧ o = b ∧ v = t) ∨ (o ≠ t ∧ t = b ∧ v = o) := by
  unfold mval at h
  split at h
  · cases h; exact .inl ⟨by assumption, rfl⟩
  · split at h
    · cases h; exact .inr (.inl ⟨by assumption, by assumption, rfl⟩)
    · split at h
      · cases h; exact .inr (.inr ⟨by assumption, by assumption, rfl⟩)
      · cases h
theorem chs_same (h : NoC g0 g1 g2) {p : Int} {e : Int × Int} (h1 : g1 p = some e) (h2 : g2 p = some e) : chs g0 g1 g2 p = some e := by
  rcases chs_or g0 g1 g2 p with z | z
  · exact z.trans h1
  · exact z.trans h2
theorem chs_two (h : NoC g0 g1 g2) {p : Int} (n1 : g1 p ≠ g2 p) (n2 : g2 p ≠ g0 p) : chs g0 g1 g2 p = g2 p ∧ g1 p = g0 p := by
  refine ⟨?_, ?_⟩
  · unfold chs; rw [if_neg (fun z => z.elim n1 n2)]
  · rcases h p with e | e | e
    · exact absurd e n1
    · exact absurd e n2
    · exact e
theorem chs_one (h : NoC g0 g1 g2) {p : Int} (n1 : g1 p ≠ g2 p) (n2 : g1 p ≠ g0 p) : chs g0 g1 g2 p = g1 p ∧ g2 p = g0 p := by
  have := chs_two h.sym (fun z => n1 z.symm) n2
  rw [chs_sym h] at this
  exact this
variable (G0 : GK n r0 g0) (G1 : GK n r1 g1) (G2 : GK n r2 g2) (hc : NoC g0 g1 g2) (L0 : Lf n r0) (L1 : Lf n r1) (L2 : Lf n r2)
include G0 G1 G2 hc L0 L1 L2
/-- the second moved it, the first did not -/
theorem moved {i : Nat} {p c : Int} (h1 : 1 ≤ i) (h2 : i < n) (hp : 0 < p) (a : (row r1 i).1 = (row r0 i).1) (b : (row r2 i).1 = p) (ne : (row r1 i).1 ≠ p) (hm : mval (row r0 i).2 (row r1 i).2 (row r2 i).2 = some c) : chs g0 g1 g2 p = some ((i : Int), c) := by
  subst b
  have d2 := G2.dn i h1 h2 hp
  have n1 : g1 (row r2 i).1 ≠ g2 (row r2 i).1 := by rw [d2]; exact G1.not ne _
  have n2 : g2 (row r2 i).1 ≠ g0 (row r2 i).1 := by rw [d2]; exact fun z => G0.not (by rw [← a]; exact ne) _ z.symm
  rw [(chs_two hc n1 n2).1, d2]
  have : (row r2 i).2 = c := by
    rcases mval_eq hm with ⟨e, v⟩ | ⟨_, _, v⟩ | ⟨e, f, v⟩
    · rw [v, e]
    · exact v.symm
    · -- the first changed the content where it stood
      exfalso
      have p0 : 0 < (row r0 i).1 := by
        refine Classical.byContradiction fun z => ?_
        have z1 : ¬ 0 < (row r1 i).1 := by rw [a]; exact z
        have y0 : ¬ 0 < (row r0 i).2 := fun y => z ((L0.both i).mpr y)
        have y1 : ¬ 0 < (row r1 i).2 := fun y => z1 ((L1.both i).mpr y)
        have := (L0.nn.nn i).2
        have := (L1.nn.nn i).2
        omega
      have d0 := G0.dn i h1 h2 p0
      have d1 := G1.dn i h1 h2 (by rw [a]; exact p0)
      rw [a] at d1
      have d2' : ∀ x, g2 (row r0 i).1 ≠ some ((i : Int), x) := fun x => G2.not (by rw [← a]; exact fun z => ne z.symm) x
      rcases hc (row r0 i).1 with z | z | z
      · rw [d1] at z; exact d2' _ z.symm
      · rw [d0] at z; exact d2' _ z
      · rw [d0, d1] at z
        have := congrArg Prod.snd (Option.some.inj z)
        simp only at this
        omega
  rw [this]
theorem merged_at {i : Nat} {p c : Int} (h1 : 1 ≤ i) (h2 : i < n) (hp : 0 < p) (hm : Mg r0 r1 r2 i p c) : chs g0 g1 g2 p = some ((i : Int), c) := by
  obtain ⟨m1, m2⟩ := hm
  rcases mval_eq m1 with ⟨e, v⟩ | ⟨ne, e, v⟩ | ⟨ne, e, v⟩
  · -- both have it there
    subst v
    have d1 := G1.dn i h1 h2 hp
    have d2 := G2.dn i h1 h2 (by rw [← e]; exact hp)
    rw [← e] at d2
    rcases mval_eq m2 with ⟨e', v'⟩ | ⟨ne', e', v'⟩ | ⟨ne', e', v'⟩
    · rw [← e', ← v'] at d2
      rw [← v'] at d1
      exact chs_same hc d1 d2
    · have n1 : g1 (row r1 i).1 ≠ g2 (row r1 i).1 := by
        rw [d1, d2]; intro z
        exact ne' (by simpa using z)
      have n2 : g2 (row r1 i).1 ≠ g0 (row r1 i).1 := by
        rw [d2]; intro z
        obtain ⟨_, _, _, _, w⟩ := G0.row z.symm
        omega
      rw [(chs_two hc n1 n2).1, d2, v']
    · have n1 : g1 (row r1 i).1 ≠ g2 (row r1 i).1 := by
        rw [d1, d2]; intro z
        exact ne' (by simpa using z)
      have n2 : g1 (row r1 i).1 ≠ g0 (row r1 i).1 := by
        rw [d1]; intro z
        obtain ⟨_, _, _, _, w⟩ := G0.row z.symm
        omega
      rw [(chs_one hc n1 n2).1, d1, v']
  · exact moved G0 G1 G2 hc L0 L1 L2 h1 h2 hp e v.symm (by rw [v]; exact ne) m2
  · have m2' : mval (row r0 i).2 (row r2 i).2 (row r1 i).2 = some c := by
      rcases mval_eq m2 with ⟨a, b⟩ | ⟨a, b, d⟩ | ⟨a, b, d⟩
      · unfold mval; rw [if_pos a.symm, b, a]
      · unfold mval; rw [if_neg (fun z => a z.symm), if_neg (fun z => a (b.trans z.symm)), if_pos b, d]
      · unfold mval; rw [if_neg (fun z => a z.symm), if_pos b, d]
    have := moved G0 G2 G1 hc.sym L0 L2 L1 h1 h2 hp e v.symm (by rw [v]; exact fun z => ne z.symm) m2'
    rw [chs_sym hc] at this
    exact this
/-- both merges go: they tell the same -/
theorem both_go (tot : ∀ i, 1 ≤ i → i < n → ∃ p c, Mg r0 r1 r2 i p c) {i : Nat} {p c : Int} : chs g0 g1 g2 p = some ((i : Int), c) ↔ 1 ≤ i ∧ i < n ∧ 0 < p ∧ Mg r0 r1 r2 i p c := by
  constructor
  · intro h
    obtain ⟨h1, h2, hp, w⟩ := chs_item G0 G1 G2 hc h
    obtain ⟨p', c', hm⟩ := tot i h1 h2
    refine ⟨h1, h2, hp, ?_⟩
    by_cases z : 0 < p'
    · have k := merged_at G0 G1 G2 hc L0 L1 L2 h1 h2 z hm
      by_cases e : p' = p
      · subst e
        rw [h] at k
        have : c = c' := congrArg Prod.snd (Option.some.inj k)
        rw [this]
        exact hm
      · exfalso
        obtain ⟨_, _, t⟩ := (twice_iff G0 G1 G2 hc i).mpr ⟨p', c', p, c, e, k, h⟩
        unfold twc at t
        rw [decide_eq_true_eq] at t
        obtain ⟨_, _, t1, t2, t3⟩ := t
        have := hm.1
        unfold mval at this
        rw [if_neg t1, if_neg t2, if_neg t3] at this
        cases this
    · exfalso
      rcases mval_eq hm.1 with ⟨a, b⟩ | ⟨a, b, d⟩ | ⟨a, b, d⟩
      · rcases w with ⟨w, _⟩ | ⟨w, _⟩ <;> omega
      · have e : p = (row r1 i).1 := by
          rcases w with ⟨w, _⟩ | ⟨w, _⟩
          · exact w
          · omega
        subst e
        have := (stays G0 G1 G2 hc h1 h2 hp (fun y => a y.symm)).mp (by
          rcases w with ⟨_, w⟩ | ⟨w, _⟩
          · exact w
          · exact absurd w a)
        exact this b
      · have e : p = (row r2 i).1 := by
          rcases w with ⟨w, _⟩ | ⟨w, _⟩
          · omega
          · exact w
        subst e
        have := (stays G0 G2 G1 hc.sym h1 h2 hp a).mp (by
          rw [chs_sym hc]
          rcases w with ⟨w, _⟩ | ⟨_, w⟩
          · exact absurd w.symm a
          · exact w)
        exact this b
  · rintro ⟨h1, h2, hp, hm⟩
    exact merged_at G0 G1 G2 hc L0 L1 L2 h1 h2 hp hm
end
/-! ### the lists -/
theorem mem_keys3 {l0 l1 l2 : Arr} {q : Int} : q ∈ keys3 l0 l1 l2 ↔ q ∈ l0.map (·.1) ∨ q ∈ l1.map (·.1) ∨ q ∈ l2.map (·.1) := by
  unfold keys3
  rw [mem_srt, List.mem_append, List.mem_append]
theorem cho_no {α : Type} [DecidableEq α] {b o t : Option α} : cho b o t = none ↔ o ≠ t ∧ t ≠ b ∧ o ≠ b := by
  unfold cho
  by_cases a : o = t ∨ t = b
  · rw [if_pos a]
    simp
    intro h1 h2
    exact absurd a (by simp [h1, h2])
  · rw [if_neg a]
    have h1 : o ≠ t := fun z => a (.inl z)
    have h2 : t ≠ b := fun z => a (.inr z)
    by_cases c : o = b
    · rw [if_pos c]; simp [c]
    · rw [if_neg c]; simp [c, h1, h2]
theorem noC_of {l0 l1 l2 : Arr} (h : clashP l0 l1 l2 = none) : NoC (get l0) (get l1) (get l2) := by
  intro p
  by_cases m : p ∈ keys3 l0 l1 l2
  · unfold clashP at h
    rw [List.find?_eq_none] at h
    have := h p m
    rw [Option.isNone_iff_eq_none, cho3, cho_no] at this
    by_cases a : get l1 p = get l2 p
    · exact .inl a
    · by_cases b : get l2 p = get l0 p
      · exact .inr (.inl b)
      · by_cases c : get l1 p = get l0 p
        · exact .inr (.inr c)
        · exact absurd ⟨a, b, c⟩ this
  · rw [mem_keys3, not_or, not_or] at m
    left
    rw [get_none.mpr m.2.1, get_none.mpr m.2.2]
theorem mem_mrgP {l0 l1 l2 : Arr} (h : clashP l0 l1 l2 = none) {p : Int} {e : Int × Int} : (p, e) ∈ mrgP l0 l1 l2 ↔ chs (get l0) (get l1) (get l2) p = some e := by
  have nc := noC_of h
  have key : ∀ q, cho3 l0 l1 l2 q = some (chs (get l0) (get l1) (get l2) q) := by
    intro q
    unfold cho3 cho chs
    by_cases a : get l1 q = get l2 q ∨ get l2 q = get l0 q
    · rw [if_pos a, if_pos a]
    · rw [if_neg a, if_neg a]
      rcases nc q with z | z | z
      · exact absurd (.inl z) a
      · exact absurd (.inr z) a
      · rw [if_pos z]
  unfold mrgP
  rw [List.mem_filterMap]
  constructor
  · rintro ⟨q, _, hq⟩
    unfold putP at hq
    rw [key] at hq
    obtain ⟨x, hx, e2⟩ := Option.map_eq_some_iff.mp hq
    cases e2
    exact hx
  · intro hx
    refine ⟨p, Classical.byContradiction fun m => ?_, ?_⟩
    · rw [mem_keys3, not_or, not_or] at m
      unfold chs at hx
      rw [get_none.mpr m.2.1, get_none.mpr m.2.2, if_pos (.inl rfl)] at hx
      cases hx
    · unfold putP
      rw [key, hx]
      rfl
theorem mrgP_sorted (l0 l1 l2 : Arr) : (mrgP l0 l1 l2).Pairwise (fun a b => a.1 < b.1) := by
  refine sorted_filterMap _ ?_ (pw_srt _)
  intro q e he
  unfold putP at he
  obtain ⟨x, _, rfl⟩ := Option.map_eq_some_iff.mp he
  rfl
theorem mrgP_nodup (l0 l1 l2 : Arr) : ((mrgP l0 l1 l2).map (·.1)).Nodup := nodup_of_sorted (mrgP_sorted l0 l1 l2)
theorem mrgP_len (l0 l1 l2 : Arr) : (mrgP l0 l1 l2).length ≤ l0.length + (l1.length + l2.length) := by
  refine Nat.le_trans (List.length_filterMap_le _ _) (Nat.le_trans (len_srt _) ?_)
  simp
theorem count_two {l : Arr} (nd : (l.map (·.1)).Nodup) {k : Int} : 1 < (l.map (·.2.1)).count k ↔ ∃ a ∈ l, ∃ b ∈ l, a.1 ≠ b.1 ∧ a.2.1 = k ∧ b.2.1 = k := by
  induction l with
  | nil => simp
  | cons x r ih =>
    rw [List.map_cons] at nd
    have nd' := List.nodup_cons.mp nd
    rw [List.map_cons, List.count_cons]
    have one : 0 < (r.map (·.2.1)).count k ↔ ∃ b ∈ r, b.2.1 = k := by
      rw [List.count_pos_iff, List.mem_map]
    have ne : ∀ b ∈ r, x.1 ≠ b.1 := fun b hb e => nd'.1 (List.mem_map.mpr ⟨b, hb, e.symm⟩)
    by_cases e : x.2.1 = k
    · rw [if_pos (by simpa using e)]
      constructor
      · intro h
        obtain ⟨b, hb, hk⟩ := one.mp (by omega)
        exact ⟨x, by simp, b, by simp [hb], ne b hb, e, hk⟩
      · rintro ⟨a, ha, b, hb, hne, ea, eb⟩
        have : 0 < (r.map (·.2.1)).count k := by
          rw [one]
          rcases List.mem_cons.mp ha with rfl | ha
          · rcases List.mem_cons.mp hb with rfl | hb
            · exact absurd rfl hne
            · exact ⟨b, hb, eb⟩
          · exact ⟨a, ha, ea⟩
        omega
    · rw [if_neg (by simpa using e), Nat.add_zero, ih nd'.2]
      constructor
      · rintro ⟨a, ha, b, hb, r⟩
        exact ⟨a, by simp [ha], b, by simp [hb], r⟩
      · rintro ⟨a, ha, b, hb, hne, ea, eb⟩
        rcases List.mem_cons.mp ha with rfl | ha
        · exact absurd ea e
        · rcases List.mem_cons.mp hb with rfl | hb
          · exact absurd eb e
          · exact ⟨a, ha, b, hb, hne, ea, eb⟩
theorem mem_twL {n : Nat} {r0 r1 r2 : Std} (h : Nn n r0) {k : Int} : k ∈ twL r0 r1 r2 ↔ ∃ i : Nat, k = (i : Int) ∧ 1 ≤ i ∧ i < n ∧ twc r0 r1 r2 i = true := by
  have hn := h.pos
  unfold twL twTo
  rw [h.len, List.mem_map]
  constructor
  · rintro ⟨j, hj, rfl⟩
    obtain ⟨a, b⟩ := List.mem_filter.mp hj
    have := List.mem_range.mp a
    exact ⟨1 + j, rfl, by omega, by omega, b⟩
  · rintro ⟨i, rfl, h1, h2, h3⟩
    refine ⟨i - 1, List.mem_filter.mpr ⟨List.mem_range.mpr (by omega), ?_⟩, ?_⟩
    · rw [show 1 + (i - 1) = i from by omega]; exact h3
    · rw [show 1 + (i - 1) = i from by omega]
theorem twL_sorted (r0 r1 r2 : Std) : (twL r0 r1 r2).Pairwise (· < ·) := by
  unfold twL twTo
  rw [List.pairwise_map]
  exact (List.pairwise_lt_range.filter _).imp fun h => by omega
section
variable {n : Nat} {r0 r1 r2 : Std} (L0 : Lf n r0) (L1 : Lf n r1) (L2 : Lf n r2) (hc : clashP (arrD r0) (arrD r1) (arrD r2) = none)
include L0 L1 L2 hc
theorem lost_in {i : Nat} (h1 : 1 ≤ i) (h2 : i < n) (p1 : 0 < (row r1 i).1) (p2 : 0 < (row r2 i).1) : ((i : Nat) : Int) ∈ (mrgP (arrD r0) (arrD r1) (arrD r2)).map (·.2.1) := by
  obtain ⟨p, c, h⟩ := stands (gk_arr L0) (gk_arr L1) (gk_arr L2) (noC_of hc) h1 h2 p1 p2
  exact List.mem_map.mpr ⟨_, (mem_mrgP hc).mpr h, rfl⟩
theorem chs_nat {p : Int} {e : Int × Int} (h : chs (get (arrD r0)) (get (arrD r1)) (get (arrD r2)) p = some e) : ∃ i : Nat, e.1 = (i : Int) := by
  rcases chs_or (get (arrD r0)) (get (arrD r1)) (get (arrD r2)) p with z | z
  · rw [z] at h
    obtain ⟨i, _, _, _, e, _⟩ := (gk_arr L1).up _ _ h
    exact ⟨i, by rw [e]⟩
  · rw [z] at h
    obtain ⟨i, _, _, _, e, _⟩ := (gk_arr L2).up _ _ h
    exact ⟨i, by rw [e]⟩
theorem lost_two (k : Int) : 1 < ((mrgP (arrD r0) (arrD r1) (arrD r2)).map (·.2.1)).count k ↔ k ∈ twL r0 r1 r2 := by
  rw [count_two (mrgP_nodup _ _ _), mem_twL L0.nn]
  constructor
  · rintro ⟨⟨p, i, c⟩, ha, ⟨p', i', c'⟩, hb, ne, ea, eb⟩
    simp only at ne ea eb
    subst ea; subst eb
    rw [mem_mrgP hc] at ha hb
    obtain ⟨j, hj⟩ := chs_nat L0 L1 L2 hc ha
    simp only at hj
    subst hj
    exact ⟨j, rfl, (twice_iff (gk_arr L0) (gk_arr L1) (gk_arr L2) (noC_of hc) j).mpr ⟨p, c, p', c', ne, ha, hb⟩⟩
  · rintro ⟨i, rfl, h⟩
    obtain ⟨p, c, p', c', ne, ha, hb⟩ := (twice_iff (gk_arr L0) (gk_arr L1) (gk_arr L2) (noC_of hc) i).mp h
    exact ⟨(p, _), (mem_mrgP hc).mpr ha, (p', _), (mem_mrgP hc).mpr hb, ne, rfl, rfl⟩
end
/-! ### the arrangement of a book -/
theorem mem_arrF {n : Nat} {rows : Std} (h : Nn n rows) {e : Int × (Int × Int)} : e ∈ arrF (bookOf rows) (n - 1) ↔ e ∈ arrD rows := by
  have hn := h.pos
  rw [mem_arrD h]
  unfold arrF
  rw [List.mem_filterMap]
  have key : ∀ j : Nat, j < n - 1 → gv (bookOf rows) (2 * (1 + (j : Int))) = (row rows (1 + j)).1 ∧ gv (bookOf rows) (2 * (1 + (j : Int)) + 1) = (row rows (1 + j)).2 := by
    intro j hj
    rw [gv_book h, gv_book h, show (2 * (1 + (j : Int))) = 2 * ((1 + j : Nat) : Int) from by omega]
    exact ⟨vl_pos (by omega) (by omega), vl_con (by omega) (by omega)⟩
  constructor
  · rintro ⟨j, hj, he⟩
    have hj := List.mem_range.mp hj
    obtain ⟨k1, k2⟩ := key j hj
    rw [k1, k2] at he
    split at he
    · cases he
      exact ⟨1 + j, by omega, by omega, by assumption, by rw [show (((1 + j : Nat)) : Int) = 1 + (j : Int) from by omega]⟩
    · cases he
  · rintro ⟨i, h1, h2, h3, rfl⟩
    refine ⟨i - 1, List.mem_range.mpr (by omega), ?_⟩
    obtain ⟨k1, k2⟩ := key (i - 1) (by omega)
    rw [k1, k2, show 1 + (i - 1) = i from by omega, if_pos h3, show (1 + ((i - 1 : Nat) : Int)) = (i : Int) from by omega]
theorem arrF_nodup {n : Nat} {rows : Std} (h : Lf n rows) : ((arrF (bookOf rows) (n - 1)).map (·.1)).Nodup := by
  have hn := h.nn.pos
  have key : ∀ j : Nat, j < n - 1 → gv (bookOf rows) (2 * (1 + (j : Int))) = (row rows (1 + j)).1 := by
    intro j hj
    rw [gv_book h.nn, show (2 * (1 + (j : Int))) = 2 * ((1 + j : Nat) : Int) from by omega]
    exact vl_pos (by omega) (by omega)
  unfold arrF
  rw [List.nodup_iff_pairwise_ne, List.pairwise_map, List.pairwise_filterMap]
  refine (List.Pairwise.and_mem.mp (List.pairwise_lt_range (n := n - 1))).imp ?_
  rintro a b ⟨ha, hb, lt⟩ x hx y hy e
  rw [key a (List.mem_range.mp ha)] at hx
  rw [key b (List.mem_range.mp hb)] at hy
  split at hx
  · split at hy
    · cases hx; cases hy
      have := h.inj (1 + a) (1 + b) (by assumption) e
      omega
    · cases hy
  · cases hx
/-- both merges go: the arrangement of the merged book is the merged arrangement -/
theorem go_arr {n : Nat} {r0 r1 r2 : Std} (L0 : Lf n r0) (L1 : Lf n r1) (L2 : Lf n r2) (hc : clashP (arrD r0) (arrD r1) (arrD r2) = none) (hs : clashS r0 r1 r2 = none) {e : Int × (Int × Int)} : e ∈ arrD (mrgS r0 r1 r2) ↔ e ∈ mrgP (arrD r0) (arrD r1) (arrD r2) := by
  have tot : ∀ i, 1 ≤ i → i < n → Mg r0 r1 r2 i (row (mrgS r0 r1 r2) i).1 (row (mrgS r0 r1 r2) i).2 := by
    intro i h1 h2
    have a := vl_mrg L0.nn hs (2 * (i : Int))
    have b := vl_mrg L0.nn hs (2 * (i : Int) + 1)
    rw [vl_pos h1 h2, vl_pos h1 h2, vl_pos h1 h2, vl_pos h1 h2] at a
    rw [vl_con h1 h2, vl_con h1 h2, vl_con h1 h2, vl_con h1 h2] at b
    exact ⟨a, b⟩
  have bg := fun {i : Nat} {p c : Int} => both_go (i := i) (p := p) (c := c) (gk_arr L0) (gk_arr L1) (gk_arr L2) (noC_of hc) L0 L1 L2 (fun i h1 h2 => ⟨_, _, tot i h1 h2⟩)
  rw [mem_arrD (mrg_nn L0.nn L1.nn L2.nn)]
  obtain ⟨p, i, c⟩ := e
  rw [mem_mrgP hc]
  constructor
  · rintro ⟨j, h1, h2, h3, h4⟩
    cases h4
    exact bg.mpr ⟨h1, h2, h3, tot j h1 h2⟩
  · intro h
    obtain ⟨j, hj⟩ := chs_nat L0 L1 L2 hc h
    simp only at hj
    subst hj
    obtain ⟨h1, h2, h3, m1, m2⟩ := bg.mp h
    obtain ⟨t1, t2⟩ := tot j h1 h2
    rw [t1] at m1
    rw [t2] at m2
    cases m1; cases m2
    exact ⟨j, h1, h2, h3, rfl⟩
/-- both merges go: nothing stands twice -/
theorem go_tw {n : Nat} {r0 r1 r2 : Std} (L0 : Lf n r0) (hs : clashS r0 r1 r2 = none) : twL r0 r1 r2 = [] := by
  refine List.eq_nil_iff_forall_not_mem.mpr fun k hk => ?_
  obtain ⟨i, _, h1, h2, t⟩ := (mem_twL L0.nn).mp hk
  unfold twc at t
  rw [decide_eq_true_eq] at t
  obtain ⟨_, _, t1, t2, t3⟩ := t
  have := vl_mrg L0.nn hs (2 * (i : Int))
  rw [vl_pos h1 h2, vl_pos h1 h2, vl_pos h1 h2] at this
  unfold mval at this
  rw [if_neg t1, if_neg t2, if_neg t3] at this
  cases this
end K80
end
section
set_option maxHeartbeats 4000000
namespace K80
open PySem PySem.Spec PyProof.Rows L2 Inf
/-! ### equal data -/
theorem mk2_eq {K : PySem.W.Frag} {H : Hp} {x y : V} {p : Int × Int} (hx : Mk2 H x p) (hy : Mk2 H y p) : EqW K H 2 x y := by
  obtain ⟨t, rfl, ht⟩ := hx
  obtain ⟨u, rfl, hu⟩ := hy
  exact .inr (.inr (.inr (.inl ⟨t, u, _, _, rfl, rfl, SqT.of ht, SqT.of hu, .cons (.inl ⟨rfl, rfl⟩) (.cons (.inl ⟨rfl, rfl⟩) .nil)⟩)))
theorem br_eq {K : PySem.W.Frag} {H : Hp} {x y : V} {b : Bar} (hx : Br H x b) (hy : Br H y b) : EqW K H 3 x y := by
  obtain ⟨t, x1, x2, rfl, ht, h1, h2⟩ := hx
  obtain ⟨u, y1, y2, rfl, hu, g1, g2⟩ := hy
  exact .inr (.inr (.inr (.inl ⟨t, u, _, _, rfl, rfl, SqT.of ht, SqT.of hu, .cons (mk2_eq h1 g1) (.cons (mk2_eq h2 g2) .nil)⟩)))
theorem ls_eq {K : PySem.W.Frag} {H : Hp} {a b : Addr} {ns : List Int} (ha : Ls H a ns) (hb : Ls H b ns) : EqW K H 2 (.ref a) (.ref b) :=
  .inr (.inr (.inl ⟨a, b, _, _, rfl, rfl, SqL.of ha, SqL.of hb, paired_refl_int ns⟩))
/-- equal dicts -/
def DEq (K : PySem.W.Frag) (H : Hp) (n : Nat) (a b : Addr) : Prop := ∃ ks ls, H a = some (.dK ks) ∧ H b = some (.dK ls) ∧ ks.length = ls.length ∧ ∀ p ∈ ks, ∃ u, valV ls p.1 = some u ∧ EqW K H n p.2 u
theorem nodup_lists {α : Type} {l : List (Int × α)} (nd : (l.map (·.1)).Nodup) : l.Nodup := by
  rw [List.nodup_iff_pairwise_ne] at *
  rw [List.pairwise_map] at nd
  exact nd.imp fun h e => h (by rw [e])
theorem ar_eq {K : PySem.W.Frag} {H : Hp} {a b : Addr} {l m : Arr} (ha : Ar H a l) (hb : Ar H b m) (nl : (l.map (·.1)).Nodup) (nm : (m.map (·.1)).Nodup) (he : ∀ e, e ∈ l ↔ e ∈ m) : DEq K H 2 a b := by
  obtain ⟨ks, hk, hp⟩ := ha
  obtain ⟨ls, hl, hq⟩ := hb
  refine ⟨ks, ls, hk, hl, ?_, fun p hm => ?_⟩
  · rw [Paired.length hp, Paired.length hq]
    exact ((List.perm_ext_iff_of_nodup (nodup_lists nl) (nodup_lists nm)).mpr he).length_eq
  · obtain ⟨i, hi⟩ := List.mem_iff_getElem?.mp hm
    obtain ⟨e, h1, h2, h3⟩ := paired_at hp hi
    have z := ent_val hq e.1
    rw [get_of_mem nm (show (e.1, e.2) ∈ m from (he e).mp (List.mem_of_getElem? h1))] at z
    obtain ⟨t, e1, e2⟩ := entO_some z
    exact ⟨.ref t, by rw [h2]; exact e1, mk2_eq h3 ⟨t, rfl, e2⟩⟩
theorem bk_eq {K : PySem.W.Frag} {H : Hp} {a b : Addr} {l : List (Int × Int)} (ha : Bk H a l) (hb : Bk H b l) (nd : (l.map (·.1)).Nodup) : DEq K H 1 a b := by
  refine ⟨_, _, ha, hb, rfl, fun p hm => ?_⟩
  obtain ⟨e, he, rfl⟩ := List.mem_map.mp hm
  refine ⟨V.int e.2, ?_, .inl ⟨rfl, rfl⟩⟩
  show valV (kvI l) (Sum.inl e.1) = _
  rw [valV_kvI, get_of_mem nd (show (e.1, e.2) ∈ l from he)]
  rfl
theorem DEq.w {K : PySem.W.Frag} {H : Hp} {n : Nat} {a b : Addr} (h : DEq K H n a b) : EqW K H (n + 1) (.ref a) (.ref b) :=
  let ⟨ks, ls, h1, h2, h3, h4⟩ := h; .inr (.inr (.inr (.inr ⟨a, b, ks, ls, rfl, rfl, h1, h2, h3, h4⟩)))
theorem DEq.ne {K : PySem.W.Frag} {H : Hp} {n : Nat} {a b : Addr} {Q : VK} (h : DEq K H n a b) (hn : n ≤ 60) (q : Q (.bl false) H) : rNeS K (.ref a) (.ref b) H Q :=
  let ⟨ks, ls, h1, h2, h3, h4⟩ := h; ⟨n, hn, .inr ⟨a, b, ks, ls, rfl, rfl, h1, h2, h3, h4⟩, q⟩
theorem tup_ne {K : PySem.W.Frag} {H : Hp} {n : Nat} {a b : Addr} {xs ys : List V} {Q : VK} (ha : H a = some (.tup xs)) (hb : H b = some (.tup ys)) (h : Paired (EqW K H n) xs ys) (hn : n ≤ 60) (q : Q (.bl false) H) : rNeS K (.ref a) (.ref b) H Q :=
  ⟨n, hn, .inl ⟨a, b, xs, ys, rfl, rfl, SqT.of ha, SqT.of hb, h⟩, q⟩
theorem EqW.up {K : PySem.W.Frag} {H : Hp} : ∀ {n : Nat} {x y : V}, EqW K H n x y → EqW K H (n + 1) x y
  | 0, _, _, h => (show False from h).elim
  | n + 1, x, y, h => by
    rcases h with h | h | h
    · exact .inl h
    · exact .inr (.inl h)
    · refine .inr (.inr ?_)
      rcases h with ⟨a, b, xs, ys, e1, e2, ha, hb, hp⟩ | ⟨a, b, xs, ys, e1, e2, ha, hb, hp⟩ | ⟨a, b, ks, ls, e1, e2, ha, hb, hl, hp⟩
      · exact .inl ⟨a, b, xs, ys, e1, e2, ha, hb, paired_mono (fun _ _ r => EqW.up r) hp⟩
      · exact .inr (.inl ⟨a, b, xs, ys, e1, e2, ha, hb, paired_mono (fun _ _ r => EqW.up r) hp⟩)
      · exact .inr (.inr ⟨a, b, ks, ls, e1, e2, ha, hb, hl, fun p hm => let ⟨u, q1, q2⟩ := hp p hm; ⟨u, q1, EqW.up q2⟩⟩)
/-! ### what is due -/
def Due (H : Hp) (y : V) (l0 l1 l2 : Arr) : Prop := ∃ t, y = .ref t ∧ ((clashP l0 l1 l2 = none ∧ ∃ d, H t = some (.tup [.str "told", .ref d]) ∧ Ar H d (mrgP l0 l1 l2)) ∨ ∃ q, clashP l0 l1 l2 = some q ∧ H t = some (.tup [.str "refused", .int q]))
theorem Due.same {H H' : Hp} (e : Same H H') {y : V} {l0 l1 l2 : Arr} (h : Due H y l0 l1 l2) : Due H' y l0 l1 l2 := by
  obtain ⟨t, rfl, ⟨hc, d, h1, h2⟩ | ⟨q, hc, h1⟩⟩ := h
  · exact ⟨t, rfl, .inl ⟨hc, d, e _ _ h1, h2.same e⟩⟩
  · exact ⟨t, rfl, .inr ⟨q, hc, e _ _ h1⟩⟩
/-- the three ends of a merge by places -/
def DueB (H : Hp) (y : V) (r0 r1 r2 : Std) : Prop := ∃ t, y = .ref t ∧
  ((clashS r0 r1 r2 = none ∧ brk (mrgS r0 r1 r2) = "" ∧ ∃ d, H t = some (.tup [.str "book", .ref d]) ∧ Bk H d (bookOf (mrgS r0 r1 r2))) ∨
   (clashS r0 r1 r2 = none ∧ brk (mrgS r0 r1 r2) ≠ "" ∧ ∃ br z, FB (mrgS r0 r1 r2) (brk (mrgS r0 r1 r2)) br ∧ H t = some (.tup [.str "rule", .str (brk (mrgS r0 r1 r2)), z]) ∧ Br H z br) ∨
   ∃ i s l, clashS r0 r1 r2 = some (i, s) ∧ H t = some (.tup [.str "place", .int (2 * ((i : Nat) : Int) + ((s : Nat) : Int)), .ref l]) ∧ Ls H l (two (sd (row r1 i) s) (sd (row r2 i) s)))
theorem Bk.same {H H' : Hp} (e : Same H H') {a : Addr} {l : List (Int × Int)} (h : Bk H a l) : Bk H' a l := e _ _ h
theorem DueB.same {H H' : Hp} (e : Same H H') {y : V} {r0 r1 r2 : Std} (h : DueB H y r0 r1 r2) : DueB H' y r0 r1 r2 := by
  obtain ⟨t, rfl, ⟨hc, hb, d, h1, h2⟩ | ⟨hc, hb, br, z, hf, h1, h2⟩ | ⟨i, s, l, hc, h1, h2⟩⟩ := h
  · exact ⟨t, rfl, .inl ⟨hc, hb, d, e _ _ h1, h2.same e⟩⟩
  · exact ⟨t, rfl, .inr (.inl ⟨hc, hb, br, z, hf, e _ _ h1, h2.same e⟩)⟩
  · exact ⟨t, rfl, .inr (.inr ⟨i, s, l, hc, e _ _ h1, e _ _ h2⟩)⟩
theorem due_ne {K : PySem.W.Frag} {H : Hp} {x y : V} {l0 l1 l2 : Arr} {Q : VK} (hx : Due H x l0 l1 l2) (hy : Due H y l0 l1 l2) (q : Q (.bl false) H) : rNeS K x y H Q := by
  obtain ⟨t, rfl, hx⟩ := hx
  obtain ⟨u, rfl, hy⟩ := hy
  rcases hx with ⟨hc, d, h1, h2⟩ | ⟨p, hc, h1⟩
  · rcases hy with ⟨_, d', g1, g2⟩ | ⟨p, hc', _⟩
    · exact tup_ne (n := 3) h1 g1 (.cons (.inl ⟨rfl, rfl⟩) (.cons (ar_eq h2 g2 (mrgP_nodup _ _ _) (mrgP_nodup _ _ _) fun _ => Iff.rfl).w .nil)) (by decide) q
    · rw [hc] at hc'; cases hc'
  · rcases hy with ⟨hc', _⟩ | ⟨p', hc', g1⟩
    · rw [hc] at hc'; cases hc'
    · rw [hc] at hc'
      cases hc'
      exact tup_ne (n := 3) h1 g1 (.cons (.inl ⟨rfl, rfl⟩) (.cons (.inl ⟨rfl, rfl⟩) .nil)) (by decide) q
theorem fb_uniq {rows : Std} {k : Str} {b c : Bar} (h : FB rows k b) (g : FB rows k c) : b = c := by
  rcases h with ⟨h1, h2⟩ | ⟨h1, h2⟩ <;> rcases g with ⟨g1, g2⟩ | ⟨g1, g2⟩
  · exact Option.some.inj (h2.symm.trans g2)
  · rw [h1] at g1; exact absurd g1 (by decide)
  · rw [h1] at g1; exact absurd g1 (by decide)
  · exact Option.some.inj (h2.symm.trans g2)
theorem dueB_ne {K : PySem.W.Frag} {H : Hp} {x y : V} {r0 r1 r2 : Std} {Q : VK} (hx : DueB H x r0 r1 r2) (hy : DueB H y r0 r1 r2) (q : Q (.bl false) H) : rNeS K x y H Q := by
  obtain ⟨t, rfl, hx⟩ := hx
  obtain ⟨u, rfl, hy⟩ := hy
  rcases hx with ⟨hc, hb, d, h1, h2⟩ | ⟨hc, hb, br, z, hf, h1, h2⟩ | ⟨i, s, l, hc, h1, h2⟩
  · rcases hy with ⟨_, _, d', g1, g2⟩ | ⟨_, hb', _⟩ | ⟨_, _, _, hc', _⟩
    · exact tup_ne (n := 2) h1 g1 (.cons (.inl ⟨rfl, rfl⟩) (.cons (bk_eq h2 g2 (nodup_of_sorted (book_sorted _))).w .nil)) (by decide) q
    · exact absurd hb hb'
    · rw [hc] at hc'; cases hc'
  · rcases hy with ⟨_, hb', _⟩ | ⟨_, _, br', z', hf', g1, g2⟩ | ⟨_, _, _, hc', _⟩
    · exact absurd hb' hb
    · obtain rfl := fb_uniq hf hf'
      exact tup_ne (n := 3) h1 g1 (.cons (.inl ⟨rfl, rfl⟩) (.cons (.inl ⟨rfl, rfl⟩) (.cons (br_eq h2 g2) .nil))) (by decide) q
    · rw [hc] at hc'; cases hc'
  · rcases hy with ⟨hc', _⟩ | ⟨hc', _⟩ | ⟨i', s', l', hc', g1, g2⟩
    · rw [hc] at hc'; cases hc'
    · rw [hc] at hc'; cases hc'
    · rw [hc] at hc'
      cases hc'
      exact tup_ne (n := 2) h1 g1 (.cons (.inl ⟨rfl, rfl⟩) (.cons (.inl ⟨rfl, rfl⟩) (.cons (ls_eq h2 g2) .nil))) (by decide) q
end K80
end
section
set_option maxHeartbeats 4000000
namespace K80
open PySem PySem.Spec PyProof.Rows L2 Inf
/-! ### small values -/
def Sm (rows : Std) : Prop := ∀ i, (row rows i).1 < 100000 ∧ (row rows i).2 < 100000
theorem mval_sm {b o t : Int} (ho : o < 100000) (ht : t < 100000) : (mval b o t).getD 0 < 100000 := by
  unfold mval
  split
  · exact ho
  · split
    · exact ht
    · split
      · exact ho
      · decide
theorem sm_mrg {r0 r1 r2 : Std} (h1 : Sm r1) (h2 : Sm r2) : Sm (mrgS r0 r1 r2) := by
  intro i
  unfold mrgS mrgTo
  cases i with
  | zero => exact ⟨(by decide : (0 : Int) < 100000), (by decide : (0 : Int) < 100000)⟩
  | succ i =>
    unfold row
    rw [List.getElem?_cons_succ, List.getElem?_map]
    by_cases z : i < r0.length - 1
    · rw [range_get z]
      show (mrow r0 r1 r2 (1 + i)).1 < 100000 ∧ (mrow r0 r1 r2 (1 + i)).2 < 100000
      exact ⟨mval_sm (h1 _).1 (h2 _).1, mval_sm (h1 _).2 (h2 _).2⟩
    · rw [List.getElem?_eq_none (by simp; omega)]
      exact ⟨(by decide : (0 : Int) < 100000), (by decide : (0 : Int) < 100000)⟩
theorem sm_book {n : Nat} {rows : Std} (g : Nn n rows) (h : Sm rows) (hn : n ≤ 100) : ∀ p ∈ bookOf rows, 0 ≤ p.1 ∧ p.1 < 100000 ∧ 0 ≤ p.2 ∧ p.2 < 100000 := by
  rintro ⟨q, v⟩ hp
  obtain ⟨h1, h2⟩ := (tells_book g q v).mp hp
  have e : 2 ≤ q ∧ q < 2 * (n : Int) := Classical.byContradiction fun z => by rw [vl_out z] at h2; omega
  obtain ⟨i, s, d1, d2, d3, d4⟩ := place_split e
  rw [d4, vl_at d1 d2 d3] at h2
  have := h i
  have : sd (row rows i) s < 100000 := by
    unfold sd
    split
    · exact this.1
    · exact this.2
  exact ⟨by simp only; omega, by simp only; omega, by simp only; omega, by simp only; omega⟩
def SmB (b : Bar) : Prop := (0 ≤ b.1.1 ∧ b.1.1 < 100000) ∧ (0 ≤ b.1.2 ∧ b.1.2 < 100000) ∧ (0 ≤ b.2.1 ∧ b.2.1 < 100000) ∧ (0 ≤ b.2.2 ∧ b.2.2 < 100000)
theorem sm_fb {n : Nat} {rows : Std} (g : Nn n rows) (h : Sm rows) (hn : n ≤ 100) {k : Str} {b : Bar} (hf : FB rows k b) : SmB b := by
  rcases hf with ⟨_, hf⟩ | ⟨_, hf⟩
  · unfold fbW at hf
    rw [g.len] at hf
    obtain ⟨j, hj, rfl⟩ := Option.map_eq_some_iff.mp hf
    have := List.mem_range.mp (List.mem_of_find?_eq_some hj)
    have a := g.nn (1 + j)
    have b := h (1 + j)
    exact ⟨⟨by simp only; omega, by simp only; omega⟩, ⟨a.1, b.1⟩, ⟨by simp only; omega, by simp only; omega⟩, ⟨a.2, b.2⟩⟩
  · unfold fbA at hf
    rw [g.len] at hf
    obtain ⟨j, hj, hf⟩ := Option.bind_eq_some_iff.mp hf
    obtain ⟨m, hm, rfl⟩ := Option.map_eq_some_iff.mp hf
    have := List.mem_range.mp (List.mem_of_find?_eq_some hj)
    unfold inn at hm
    rw [g.len] at hm
    have := List.mem_range.mp (List.mem_of_find?_eq_some hm)
    have a := g.nn (1 + j)
    have b := h (1 + j)
    exact ⟨⟨by simp only; omega, by simp only; omega⟩, ⟨a.1, b.1⟩, ⟨by simp only; omega, by simp only; omega⟩, ⟨a.1, b.1⟩⟩
/-! ### their text -/
def fbO (rows : Std) : Option Bar := if brk rows = "whole" then fbW rows else fbA rows
theorem fb_fbO {rows : Std} {b : Bar} (h : FB rows (brk rows) b) : fbO rows = some b := by
  unfold fbO
  rcases h with ⟨h1, h2⟩ | ⟨h1, h2⟩
  · rw [if_pos h1]; exact h2
  · rw [if_neg (by rw [h1]; decide)]; exact h2
def rTxt (rows : Std) : Str := ((fbO rows).map fun br => (PyData.tuple [.str (brk rows), barD br]).shown).getD ""
theorem brk_or (rows : Std) : brk rows = "apart" ∨ brk rows = "whole" ∨ brk rows = "" := by
  unfold brk
  split
  · exact .inl rfl
  · split
    · exact .inr (.inl rfl)
    · exact .inr (.inr rfl)
theorem int_ok {i : Int} (h : 0 ≤ i ∧ i < 100000) : (PyData.int i).showable = true ∧ (PyData.int i).leavesShort 13 = true := int_short h.1 h.2
theorem ints_ok : ∀ {l : List Int}, (∀ i ∈ l, 0 ≤ i ∧ i < 100000) → PyData.showableAll (l.map PyData.int) = true ∧ PyData.leavesShortAll 13 (l.map PyData.int) = true ∧ PyData.bulkAll (l.map PyData.int) = l.length ∧ PyData.depthAll (l.map PyData.int) = 0 ∧ PyData.hasDictAll (l.map PyData.int) = false
  | [], _ => by simp [PyData.showableAll, PyData.leavesShortAll, PyData.bulkAll, PyData.depthAll, PyData.hasDictAll]
  | x :: r, h => by
    obtain ⟨h1, h2, h3, h4, h5⟩ := ints_ok (l := r) fun i hi => h i (by simp [hi])
    obtain ⟨a, b⟩ := int_ok (h x (by simp))
    simp only [List.map_cons, PyData.showableAll, PyData.leavesShortAll, PyData.bulkAll, PyData.depthAll, PyData.hasDictAll, a, b, h1, h2, h3, h4, h5, PyData.bulk, PyData.depth, PyData.hasDict, List.length_cons]
    refine ⟨by simp, by simp, by omega, by simp, by simp⟩
theorem dp_ints {K : PySem.W.Frag} {H : Hp} (l : List Int) : DpAll K H (l.map V.int) (l.map PyData.int) := by
  induction l with
  | nil => exact .nil
  | cons x r ih => exact .cons (.int x) ih
theorem Ls.dp {K : PySem.W.Frag} {H : Hp} {a : Addr} {l : List Int} (h : Ls H a l) : Dp K H (.ref a) (.list (l.map PyData.int)) := .lst (SqL.of h) (dp_ints l)
/-- the text of what is told behind the first word -/
theorem shown_due {K : PySem.W.Frag} {H : Hp} {n : Nat} {y : V} {r0 r1 r2 : Std} (h : DueB H y r0 r1 r2) (g0 : Nn n r0) (g1 : Nn n r1) (g2 : Nn n r2) (s1 : Sm r1) (s2 : Sm r2) (hn : n ≤ 100) {Q : VK}
    (q : ∀ p z, H p = none → ((∃ t k u, y = .ref t ∧ H t = some (.tup [.str "rule", k, u])) → z = rTxt (mrgS r0 r1 r2)) → ∀ H', Same H H' → Q (.str z) H') :
    rSlT K y (some 1) none H fun v H' => rRepr K [v] H' Q := by
  have gM := mrg_nn g0 g1 g2
  have sM : Sm (mrgS r0 r1 r2) := sm_mrg s1 s2
  obtain ⟨t, rfl, ⟨hc, hb, d, h1, h2⟩ | ⟨hc, hb, br, z, hf, h1, h2⟩ | ⟨i, s, l, hc, h1, h2⟩⟩ := h
  · refine ⟨t, _, rfl, SqT.of h1, fun z => absurd z.1 (by decide : ¬ (1 : Nat) = 0), fun p np => ?_⟩
    have sp := same_upd (o := .tup (cutV [V.str "book", V.ref d] (some 1) none)) np
    refine ⟨p, rfl, .inr ⟨d, bookOf (mrgS r0 r1 r2), SqT.of upd_same, sp _ _ h2, ?_, sm_book gM sM hn, fun z => ?_⟩⟩
    · have := book_len gM; omega
    · refine q p z np (fun ⟨t', k, u, e, ht⟩ => ?_) _ sp
      cases e
      rw [h1] at ht
      cases ht
  · refine ⟨t, _, rfl, SqT.of h1, fun z => absurd z.1 (by decide : ¬ (1 : Nat) = 0), fun p np => ?_⟩
    have sp := same_upd (o := .tup (cutV [V.str "rule", V.str (brk (mrgS r0 r1 r2)), z] (some 1) none)) np
    obtain ⟨b1, b2, b3, b4⟩ := sm_fb gM sM hn hf
    obtain ⟨i1, j1⟩ := int_ok b1
    obtain ⟨i2, j2⟩ := int_ok b2
    obtain ⟨i3, j3⟩ := int_ok b3
    obtain ⟨i4, j4⟩ := int_ok b4
    have ks : (PyData.str (brk (mrgS r0 r1 r2))).showable = true ∧ (PyData.str (brk (mrgS r0 r1 r2))).leavesShort 13 = true := by
      rcases brk_or (mrgS r0 r1 r2) with e | e | e <;> rw [e] <;> exact ⟨by decide +kernel, by decide +kernel⟩
    have kb : (brk (mrgS r0 r1 r2)).cps.size ≤ 5 := by
      rcases brk_or (mrgS r0 r1 r2) with e | e | e <;> rw [e] <;> decide +kernel
    simp only [PyData.showable] at i1 i2 i3 i4
    simp only [PyData.leavesShort] at j1 j2 j3 j4 ks
    refine ⟨p, rfl, .inl ⟨.tuple [.str (brk (mrgS r0 r1 r2)), barD br], .tup (SqT.of upd_same) (.cons (.str _) (.cons (Br.same sp h2).dp .nil)), ?_, ?_, ?_, ?_, ?_, ?_⟩⟩
    · simp only [PyData.showable, PyData.showableAll, barD, mkD, i1, i2, i3, i4, ks.1, Bool.and_true]
    · simp only [PyData.hasDict, PyData.hasDictAll, barD, mkD, Bool.or_false]
    · simp only [PyData.depth, PyData.depthAll, barD, mkD]
      omega
    · simp only [PyData.leavesShort, PyData.leavesShortAll, barD, mkD, j1, j2, j3, j4, ks.2, Bool.and_true]
    · simp only [PyData.bulk, PyData.bulkAll, barD, mkD]
      omega
    · refine q p _ np (fun _ => ?_) _ sp
      unfold rTxt
      rw [fb_fbO hf]
      rfl
  · obtain ⟨⟨d1, d2, d3⟩, _⟩ := cls_some g0 g1 g2 hc
    refine ⟨t, _, rfl, SqT.of h1, fun z => absurd z.1 (by decide : ¬ (1 : Nat) = 0), fun p np => ?_⟩
    have sp := same_upd (o := .tup (cutV [V.str "place", V.int (2 * ((i : Nat) : Int) + ((s : Nat) : Int)), V.ref l] (some 1) none)) np
    have hq : 0 ≤ (2 * ((i : Nat) : Int) + ((s : Nat) : Int)) ∧ (2 * ((i : Nat) : Int) + ((s : Nat) : Int)) < 100000 := by omega
    have sdb : ∀ {rows : Std}, Nn n rows → Sm rows → 0 ≤ sd (row rows i) s ∧ sd (row rows i) s < 100000 := by
      intro rows g h
      have a := g.nn i
      have b := h i
      unfold sd
      split
      · exact ⟨a.1, b.1⟩
      · exact ⟨a.2, b.2⟩
    have hl : ∀ k ∈ two (sd (row r1 i) s) (sd (row r2 i) s), 0 ≤ k ∧ k < 100000 := by
      intro k hk
      unfold two at hk
      rw [mem_srt] at hk
      rcases List.mem_cons.mp hk with rfl | hk
      · exact sdb g1 s1
      · rw [List.mem_singleton.mp hk]; exact sdb g2 s2
    have ll : (two (sd (row r1 i) s) (sd (row r2 i) s)).length ≤ 2 := len_srt _
    obtain ⟨i1, j1⟩ := int_ok hq
    obtain ⟨k1, k2, k3, k4, k5⟩ := ints_ok hl
    simp only [PyData.showable] at i1
    simp only [PyData.leavesShort] at j1
    refine ⟨p, rfl, .inl ⟨.tuple [.int (2 * ((i : Nat) : Int) + ((s : Nat) : Int)), .list ((two (sd (row r1 i) s) (sd (row r2 i) s)).map PyData.int)], .tup (SqT.of upd_same) (.cons (.int _) (.cons (Ls.dp (sp _ _ h2)) .nil)), ?_, ?_, ?_, ?_, ?_, ?_⟩⟩
    · simp only [PyData.showable, PyData.showableAll, i1, k1, Bool.and_true]
    · simp only [PyData.hasDict, PyData.hasDictAll, k5, Bool.or_false]
    · simp only [PyData.depth, PyData.depthAll, k4]
      omega
    · simp only [PyData.leavesShort, PyData.leavesShortAll, j1, k2, Bool.and_true]
    · simp only [PyData.bulk, PyData.bulkAll, k3]
      omega
    · refine q p _ np (fun ⟨t', k, u, e, ht⟩ => ?_) _ sp
      cases e
      rw [h1] at ht
      cases ht
end K80
end
section
set_option maxHeartbeats 8000000
namespace K80
open PySem PySem.Spec PyProof.Rows L2 Inf
/-- lawful rows with small values -/
structure Ok (n : Nat) (rows : Std) : Prop where
  lf : Lf n rows
  sm : Sm rows
/-- lists of arrangements and of books -/
def ArL (H : Hp) (a : Addr) (r0 r1 r2 : Std) : Prop := ∃ x y z, H a = some (.lst [.ref x, .ref y, .ref z]) ∧ Ar H x (arrD r0) ∧ Ar H y (arrD r1) ∧ Ar H z (arrD r2)
def BkL (H : Hp) (a : Addr) (r0 r1 r2 : Std) : Prop := ∃ x y z, H a = some (.lst [.ref x, .ref y, .ref z]) ∧ Bk H x (bookOf r0) ∧ Bk H y (bookOf r1) ∧ Bk H z (bookOf r2)
theorem ArL.same {H H' : Hp} (e : Same H H') {a : Addr} {r0 r1 r2 : Std} (h : ArL H a r0 r1 r2) : ArL H' a r0 r1 r2 := let ⟨x, y, z, h0, h1, h2, h3⟩ := h; ⟨x, y, z, e _ _ h0, h1.same e, h2.same e, h3.same e⟩
theorem BkL.same {H H' : Hp} (e : Same H H') {a : Addr} {r0 r1 r2 : Std} (h : BkL H a r0 r1 r2) : BkL H' a r0 r1 r2 := let ⟨x, y, z, h0, h1, h2, h3⟩ := h; ⟨x, y, z, e _ _ h0, h1.same e, h2.same e, h3.same e⟩
theorem Mk2.put_lst {H : Hp} {D : Addr} {xs : List V} {o : HO} (hD : H D = some (.lst xs)) {x : V} {p : Int × Int} (h : Mk2 H x p) : Mk2 (upd H D o) x p := by
  obtain ⟨t, e, ht⟩ := h
  exact ⟨t, e, by rw [upd_ne (fun z => by subst z; rw [hD] at ht; cases ht)]; exact ht⟩
theorem Ar.put_lst {H : Hp} {D : Addr} {xs : List V} {o : HO} {a : Addr} {l : Arr} (h : Ar H a l) (hD : H D = some (.lst xs)) : Ar (upd H D o) a l := by
  obtain ⟨ks, hk, hp⟩ := h
  exact ⟨ks, by rw [upd_ne (fun z => by subst z; rw [hD] at hk; cases hk)]; exact hk, paired_mono (fun _ _ r => ⟨r.1, r.2.put_lst hD⟩) hp⟩
theorem Bk.put_lst {H : Hp} {D : Addr} {xs : List V} {o : HO} {a : Addr} {l : List (Int × Int)} (hD : H D = some (.lst xs)) (h : Bk H a l) : Bk (upd H D o) a l := by
  rw [Bk, upd_ne (fun z => by subst z; rw [Bk, hD] at h; cases h)]
  exact h
theorem three_of {R : V → Std → Prop} {ys : List V} {r0 r1 r2 : Std} (p : Paired R ys [r0, r1, r2]) : ∃ a b c, ys = [a, b, c] ∧ R a r0 ∧ R b r1 ∧ R c r2 := by
  cases p with
  | cons a p =>
    cases p with
    | cons b p =>
      cases p with
      | cons c p =>
        cases p
        exact ⟨_, _, _, rfl, a, b, c⟩
/-- what is told: the dict is new -/
def DueF (H0 H : Hp) (y : V) (l0 l1 l2 : Arr) : Prop := ∃ t, y = .ref t ∧ ((clashP l0 l1 l2 = none ∧ ∃ d, H t = some (.tup [.str "told", .ref d]) ∧ Ar H d (mrgP l0 l1 l2) ∧ H0 d = none) ∨ ∃ q, clashP l0 l1 l2 = some q ∧ H t = some (.tup [.str "refused", .int q]))
theorem DueF.due {H0 H : Hp} {y : V} {l0 l1 l2 : Arr} (h : DueF H0 H y l0 l1 l2) : Due H y l0 l1 l2 := by
  obtain ⟨t, rfl, ⟨hc, d, h1, h2, _⟩ | ⟨q, hc, h1⟩⟩ := h
  · exact ⟨t, rfl, .inl ⟨hc, d, h1, h2⟩⟩
  · exact ⟨t, rfl, .inr ⟨q, hc, h1⟩⟩
theorem DueF.same {H0 H H' : Hp} (e : Same H H') {y : V} {l0 l1 l2 : Arr} (h : DueF H0 H y l0 l1 l2) : DueF H0 H' y l0 l1 l2 := by
  obtain ⟨t, rfl, ⟨hc, d, h1, h2, h3⟩ | ⟨q, hc, h1⟩⟩ := h
  · exact ⟨t, rfl, .inl ⟨hc, d, e _ _ h1, h2.same e, h3⟩⟩
  · exact ⟨t, rfl, .inr ⟨q, hc, e _ _ h1⟩⟩
def DueBF (H0 H : Hp) (y : V) (r0 r1 r2 : Std) : Prop := DueB H y r0 r1 r2 ∧ (∀ t d, y = .ref t → H t = some (.tup [.str "book", .ref d]) → H0 d = none)
theorem by_positions_due {K : PySem.W.Frag} {H : Hp} {a x y z : Addr} {l0 l1 l2 : Arr} {Q : VK} {E : XK} (h0 : H a = some (.lst [.ref x, .ref y, .ref z])) (hx : Ar H x l0) (hy : Ar H y l1) (hz : Ar H z l2) (n0 : (l0.map (·.1)).Nodup) (n1 : (l1.map (·.1)).Nodup) (n2 : (l2.map (·.1)).Nodup)
    (hl : l0.length + (l1.length + l2.length) < 64) (q : ∀ v H', Same H H' → Due H' v l0 l1 l2 → Q v H') : sp_by_positions K ([.ref a] ++ []) H Q E :=
  ⟨a, x, y, z, l0, l1, l2, rfl, h0, hx, hy, hz, n0, n1, n2, hl, fun hc t d H' hs ht hd => q _ _ hs ⟨t, rfl, .inl ⟨hc, d, ht, hd⟩⟩, fun p hc t H' hs ht => q _ _ hs ⟨t, rfl, .inr ⟨p, hc, ht⟩⟩⟩
theorem positions_told_due {K : PySem.W.Frag} {H : Hp} {a x y z : Addr} {l0 l1 l2 : Arr} {Q : VK} {E : XK} (h0 : H a = some (.lst [.ref x, .ref y, .ref z])) (hx : Ar H x l0) (hy : Ar H y l1) (hz : Ar H z l2)
    (hl : l0.length + (l1.length + l2.length) < 64) (q : ∀ v H', Same H H' → DueF H H' v l0 l1 l2 → Q v H') : sp_positions_told K ([.ref a] ++ []) H Q E :=
  ⟨a, x, y, z, l0, l1, l2, rfl, h0, hx, hy, hz, hl, fun hc t d H' hs ht np hd => q _ _ hs ⟨t, rfl, .inl ⟨hc, d, ht, hd, np⟩⟩, fun p hc t H' hs ht => q _ _ hs ⟨t, rfl, .inr ⟨p, hc, ht⟩⟩⟩
theorem by_places_due {K : PySem.W.Frag} {H : Hp} {a : Addr} {r0 r1 r2 : Std} {n : Nat} {Q : VK} {E : XK} (ht : Th H a r0 r1 r2) (g0 : Nn n r0) (g1 : Nn n r1) (g2 : Nn n r2) (hn : n ≤ 100)
    (q : ∀ v H', Same H H' → DueB H' v r0 r1 r2 → Q v H') : sp_by_places K ([.ref a] ++ []) H Q E := by
  refine ⟨a, r0, r1, r2, n, rfl, ht, g0.len, g1.len, g2.len, g0.pos, hn, fun hc hb => ?_, fun i s hc t l H' hs h1 h2 => q _ _ hs ⟨t, rfl, .inr (.inr ⟨i, s, l, hc, h1, h2⟩)⟩, fun hc hb t d H' hs h1 h2 => q _ _ hs ⟨t, rfl, .inl ⟨hc, hb, d, h1, h2⟩⟩, fun hc br hf t y H' hs h1 h2 => ?_⟩
  · rcases rz_spec (mrg_nn g0 g1 g2) with ⟨h, _⟩ | ⟨br, _, _, h⟩
    · exact absurd h hb
    · exact ⟨br, h⟩
  · refine q _ _ hs ⟨t, rfl, .inr (.inl ⟨hc, fun e => ?_, br, y, hf, h1, h2⟩)⟩
    rcases hf with ⟨h, _⟩ | ⟨h, _⟩ <;> rw [e] at h <;> exact absurd h (by decide)
theorem places_told_due {CR CA CN : Addr} {K : PySem.W.Frag} {H : Hp} {x : V} {a b0 b1 b2 : Addr} {r0 r1 r2 : Std} {n : Nat} {Q : VK} {E : XK} (hR : RbI CR CA CN H x (n - 1)) (h0 : H a = some (.lst [.ref b0, .ref b1, .ref b2])) (hx : Bk H b0 (bookOf r0)) (hy : Bk H b1 (bookOf r1)) (hz : Bk H b2 (bookOf r2))
    (L0 : Lf n r0) (L1 : Lf n r1) (L2' : Lf n r2) (hn : n ≤ 16) (q : ∀ v H', Same H H' → DueBF H H' v r0 r1 r2 → Q v H') : sp_places_told CR CA CN K ([x, .ref a] ++ []) H Q E := by
  have gM := mrg_nn L0.nn L1.nn L2'.nn
  have len : (bookOf r1).length + (bookOf r2).length < 64 := by
    have := book_len L1.nn
    have := book_len L2'.nn
    omega
  have noCl : clsB (bookOf r0) (bookOf r1) (bookOf r2) = [] → clashS r0 r1 r2 = none := by
    intro h
    cases hc : clashS r0 r1 r2 with
    | none => rfl
    | some p =>
      obtain ⟨i, s⟩ := p
      obtain ⟨_, r, e⟩ := cls_some L0.nn L1.nn L2'.nn hc
      rw [h] at e
      cases e
  refine ⟨x, a, b0, b1, b2, _, _, _, n - 1, rfl, hR, by omega, h0, hx, hy, hz, lawB L0, lawB L1, lawB L2', len, ndOk_mrgB L0.nn L1.nn L2'.nn, fun hc hr t d H' hs h1 np h2 => ?_, fun hc k br hr t y H' hs h1 h2 => ?_, fun p r hc t l H' hs h1 h2 => ?_⟩
  · have hc' := noCl hc
    rw [mrgB_eq L0.nn L1.nn L2'.nn hc'] at hr h2
    have hb : brk (mrgS r0 r1 r2) = "" := by
      rcases rz_spec gM with ⟨h, _⟩ | ⟨br, _, h, _⟩
      · exact h
      · rw [hr] at h; cases h
    refine q _ _ hs ⟨⟨t, rfl, .inl ⟨hc', hb, d, h1, h2⟩⟩, fun t' d' e e2 => ?_⟩
    cases e
    rw [h1] at e2
    cases e2
    exact np
  · have hc' := noCl hc
    rw [mrgB_eq L0.nn L1.nn L2'.nn hc'] at hr
    rcases rz_spec gM with ⟨_, h⟩ | ⟨br', h3, h, h4⟩
    · rw [hr] at h; cases h
    · rw [hr] at h
      cases h
      refine q _ _ hs ⟨⟨t, rfl, .inr (.inl ⟨hc', h3, br, y, h4, h1, h2⟩)⟩, fun t' d' e e2 => ?_⟩
      cases e
      rw [h1] at e2
      cases e2
  · cases hc' : clashS r0 r1 r2 with
    | none => rw [cls_none L0.nn L1.nn L2'.nn hc'] at hc; cases hc
    | some z =>
      obtain ⟨i, s⟩ := z
      obtain ⟨⟨d1, d2, d3⟩, r', e⟩ := cls_some L0.nn L1.nn L2'.nn hc'
      rw [hc] at e
      cases e
      rw [gv_at L1.nn d1 d2 d3, gv_at L2'.nn d1 d2 d3] at h2
      refine q _ _ hs ⟨⟨t, rfl, .inr (.inr ⟨i, s, l, hc', h1, h2⟩)⟩, fun t' d' e e2 => ?_⟩
      cases e
      rw [h1] at e2
      cases e2
section
variable {P : Program} {w : World} {K : PySem.W.Frag} {mg : Str → Option Value} {base : Heap} {f : Addr} {fd : FuncData}
/-! ### _law_judged -/
def sp_judged (CR CA CN : Addr) (K : PySem.W.Frag) : Sp := fun vs H Q _ => ∃ (x : V) (a : Addr) (r0 r1 r2 : Std) (n : Nat), vs = [x, .ref a] ∧ RbI CR CA CN H x (n - 1) ∧ Th H a r0 r1 r2 ∧ Ok n r0 ∧ Ok n r1 ∧ Ok n r2 ∧ n ≤ 16 ∧ ∀ H', Same H H' → Q (.bl true) H'
theorem ok_judged {CR CA CN : Addr} (F : FnP K "_law_judged" "_law_judged" s_judged f fd) (B : BT mg) (G_arranged : Has P w K mg base CX0 1 "_law_arranged" (sp_arranged K)) (G_book_of : Has P w K mg base CX0 1 "_law_book_of" (sp_book_of K))
    (G_by_positions : Has P w K mg base CX0 1 "_law_by_positions" (sp_by_positions K)) (G_by_places : Has P w K mg base CX0 2 "_law_by_places" (sp_by_places K)) (G_positions_told : Has P w K mg base CX0 4 "_law_positions_told" (sp_positions_told K))
    (G_places_told : Has P w K mg base CX0 8 "_law_places_told" (sp_places_told CR CA CN K)) (G_is_arrangement : Has P w K mg base CX0 2 "_law_is_arrangement" sp_is_arrangement) (G_nothing_lost : Has P w K mg base CX0 3 "_law_nothing_lost" (sp_nothing_lost K))
    (G_doubled : Has P w K mg base CX0 2 "doubled" (sp_doubled K)) (G_arrange : Has P w K mg base CX0 2 "arrange" (sp_arrange K)) (G_is_book : Has P w K mg base CX0 1 "_law_is_book" sp_is_book) :
    FnG P w K mg base 9 f fd ["_law_rules", "_law_three"] (sp_judged CR CA CN K) := by
  refine fnG_of F sc_judged (fun vs H Q E h => ?_) (fun cdv A outer s H vs Q E hg hr h => ?_)
  · obtain ⟨_, _, _, _, _, _, rfl, _⟩ := h
    rfl
  obtain ⟨x, a, r0, r1, r2, n, rfl, hR, hth, L0, L1, L2', hn, hQ⟩ := h
  have hu := hu_of hr
  refine ⟨_, pss_cons (ps_set (i := 2) sc_judged.nd rfl (.inl rfl) (pe_op op_sub (pe_callB call_len_seq (by rfl) B.len (by decide +kernel) (pa_cons (pe_ix ix_list (pv 1) pe_int (fun _ _ => rfl)) pa_nil)) pe_int))
    (pss_cons (ps_setLc (i := 3) (own := [("_law_stand", 13)]) (g := gName 13) (tt := tYes) rfl sc_judged.nd rfl rfl (sw_true rfl rfl rfl (by decide +kernel)) (pi_list (pv 1)) (blkOk_by (own := [("_law_stand", 13)]) (N := ["_law_rules", "_law_three", "_law_count", "_law_arranged_here", "_law_books", "_law_due", "_law_due_book", "_law_turn", "_law_told", "_law_told_book", "_law_merged", "_law_book", "_law_k", "_law_stand"]) (sc := defScope s_judged) (by decide +kernel)) (fun _ _ _ _ _ => (pg_name (i := 13) sc_judged.nd rfl (Or.inl rfl))) (fun _ _ _ _ _ => pts_nil) (fun _ _ _ _ _ => (pe_c G_arranged hr (pa_cons (pv 13) pa_nil))))
    (pss_cons (ps_setLc (i := 4) (own := [("_law_stand", 13)]) (g := gName 13) (tt := tYes) rfl sc_judged.nd rfl rfl (sw_true rfl rfl rfl (by decide +kernel)) (pi_list (pv 1)) (blkOk_by (own := [("_law_stand", 13)]) (N := ["_law_rules", "_law_three", "_law_count", "_law_arranged_here", "_law_books", "_law_due", "_law_due_book", "_law_turn", "_law_told", "_law_told_book", "_law_merged", "_law_book", "_law_k", "_law_stand"]) (sc := defScope s_judged) (by decide +kernel)) (fun _ _ _ _ _ => (pg_name (i := 13) sc_judged.nd rfl (Or.inl rfl))) (fun _ _ _ _ _ => pts_nil) (fun _ _ _ _ _ => (pe_c G_book_of hr (pa_cons (pv 13) pa_nil))))
    (pss_cons (ps_set (i := 5) sc_judged.nd rfl (.inl rfl) (pe_c G_by_positions hr (pa_cons (pe_lc (own := [("_law_stand", 13)]) (g := gName 13) (tt := tYes) rfl sc_judged.nd (pi_list (pv 1)) (blkOk_by (own := [("_law_stand", 13)]) (N := ["_law_rules", "_law_three", "_law_count", "_law_arranged_here", "_law_books", "_law_due", "_law_due_book", "_law_turn", "_law_told", "_law_told_book", "_law_merged", "_law_book", "_law_k", "_law_stand"]) (sc := defScope s_judged) (by decide +kernel)) (fun _ _ _ _ _ => (pg_name (i := 13) sc_judged.nd rfl (Or.inl rfl))) (fun _ _ _ _ _ => pts_nil) (fun _ _ _ _ _ => (pe_c G_arranged hr (pa_cons (pv 13) pa_nil)))) pa_nil)))
    (pss_cons (ps_set (i := 6) sc_judged.nd rfl (.inl rfl) (pe_c G_by_places hr (pa_cons (pv 1) pa_nil)))
    (pss_cons (ps_for PassesOwn.never rfl (pi_range1 rfl B.range (pa_cons pe_int pa_nil)) (pg_name (i := 7) sc_judged.nd rfl (Or.inl rfl))
     (pss_cons (ps_set (i := 8) sc_judged.nd rfl (.inl rfl) (pe_c G_positions_told hr (pa_cons (pv 3) pa_nil)))
     (pss_cons (ps_set (i := 9) sc_judged.nd rfl (.inl rfl) (pe_c G_places_told hr (pa_cons (pv 0) (pa_cons (pv 4) pa_nil))))
     (pss_cons (ps_if (PW.pt (pw_or (pt_cmpR (op_neS hr.units) (pv 8) (pv 5) (nomark _)) (pw_or (pt_cmpR (op_neS hr.units) (pv 9) (pv 6) (nomark _)) (pw_or1 (PW.pt (pw_and (pt_cmpR op_ne (pe_callB (call_repr hg hr.units) (by rfl) B.repr (by decide +kernel) (pa_cons (pe_slice sl_tup (pv 9) (po_some pe_int) po_none) pa_nil)) (pe_callB (call_repr hg hr.units) (by rfl) B.repr (by decide +kernel) (pa_cons (pe_slice sl_tup (pv 6) (po_some pe_int) po_none) pa_nil)) (nomark _)) (pw_and1 (pt_cmpR op_eq (pe_ix ix_tup (pv 6) pe_int (fun _ _ => rfl)) pe_str (nomark _)))))))))
      (pss_one (ps_ret pe_bl))
      pss_nil)
     (C8.pss_cut (ps_if (pt_cmpR op_eq (pe_ix ix_tup (pv 5) pe_int (fun _ _ => rfl)) pe_str (nomark _))
      (pss_cons (ps_if (PW.pt (pw_or (pt_not (pt_val (pe_c G_is_arrangement hr (pa_cons (pe_ix ix_tup (pv 8) pe_int (fun _ _ => rfl)) pa_nil)))) (pw_or1 (pt_not (pt_val (pe_c G_nothing_lost hr (pa_cons (pv 1) (pa_cons (pe_ix ix_tup (pv 8) pe_int (fun _ _ => rfl)) pa_nil))))))))
       (pss_one (ps_ret pe_bl))
       pss_nil)
      (pss_cons (ps_if (PW.pt (pw_and (pt_cmpR op_eq (pe_ix ix_tup (pv 6) pe_int (fun _ _ => rfl)) pe_str (nomark _)) (pw_and1 (PW.pt (pw_or (pt_cmpR (op_neD hr.units) (pe_c G_doubled hr (pa_cons (pe_ix ix_tup (pv 8) pe_int (fun _ _ => rfl)) pa_nil)) (pe_lst pa_nil) (nomark _)) (pw_or1 (pt_cmpR (op_neS hr.units) (pe_c G_arrange hr (pa_cons (pe_ix ix_tup (pv 9) pe_int (fun _ _ => rfl)) (pa_cons (pv 2) pa_nil))) (pe_ix ix_tup (pv 8) pe_int (fun _ _ => rfl)) (nomark _))))))))
       (pss_one (ps_ret pe_bl))
       pss_nil)
      (pss_cons (ps_set (i := 10) sc_judged.nd rfl (.inl rfl) (pe_ix ix_tup (pv 8) pe_int (fun _ _ => rfl)))
      (pss_one (ps_dput hu (pv 10) pe_int (pe_tup (pa_cons pe_int (pa_cons pe_int pa_nil))) rfl)))))
      pss_nil)
     (C8.pss_cut (ps_if (pt_cmpR op_eq (pe_ix ix_tup (pv 6) pe_int (fun _ _ => rfl)) pe_str (nomark _))
      (pss_cons (ps_if (pt_not (pt_val (pe_c G_is_book hr (pa_cons (pe_ix ix_tup (pv 9) pe_int (fun _ _ => rfl)) pa_nil))))
       (pss_one (ps_ret pe_bl))
       pss_nil)
      (pss_cons (ps_set (i := 11) sc_judged.nd rfl (.inl rfl) (pe_ix ix_tup (pv 9) pe_int (fun _ _ => rfl)))
      (pss_one (ps_dput hu (pv 11) pe_int pe_int rfl))))
      pss_nil)
     (pss_one (ps_for PassesOwn.never rfl (pi_range1 rfl B.range (pa_cons pe_int pa_nil)) (pg_name (i := 12) sc_judged.nd rfl (Or.inl rfl))
      (pss_cons (ps_if (PW.pt (pw_or (pt_cmpR (op_neS hr.units) (pe_ix ix_list (pv 3) (pv 12) (fun _ _ => rfl)) (pe_c G_arranged hr (pa_cons (pe_ix ix_list (pv 1) (pv 12) (fun _ _ => rfl)) pa_nil)) (nomark _)) (pw_or1 (pt_cmpR (op_neS hr.units) (pe_ix ix_list (pv 4) (pv 12) (fun _ _ => rfl)) (pe_c G_book_of hr (pa_cons (pe_ix ix_list (pv 1) (pv 12) (fun _ _ => rfl)) pa_nil)) (nomark _)))))
       (pss_one (ps_ret pe_bl))
       pss_nil)
      (pss_one (ps_if (pt_cmpR (op_neS hr.units) (pe_c G_arrange hr (pa_cons (pe_ix ix_list (pv 4) (pv 12) (fun _ _ => rfl)) (pa_cons (pv 2) pa_nil))) (pe_ix ix_list (pv 3) (pv 12) (fun _ _ => rfl)) (nomark _))
       (pss_one (ps_ret pe_bl))
       pss_nil)))))))))))
    (pss_one (ps_ret pe_bl))))))), ?_⟩
  obtain ⟨x0, x1, x2, h0, hx, hy, hz⟩ := id hth.ex
  have hn0 := L0.lf.nn.pos
  have l0 := L0.lf.nn.len
  have l1 := L1.lf.nn.len
  have l2 := L2'.lf.nn.len
  have a0 : atI [V.ref x0, V.ref x1, V.ref x2] 0 = some (.ref x0) := atI_nat (j := 0) rfl
  obtain ⟨ws, hws, hwl⟩ := hx.len
  have stand : ∀ (i : Nat) (v : V), ([V.ref x0, V.ref x1, V.ref x2] : List V)[i]? = some v → ∃ (t : Addr) (r : Std), v = .ref t ∧ ([r0, r1, r2] : List Std)[i]? = some r ∧ St H t r ∧ Ok n r := by
    intro i v h
    match i, h with
    | 0, h => cases h; exact ⟨x0, r0, rfl, rfl, hx, L0⟩
    | 1, h => cases h; exact ⟨x1, r1, rfl, rfl, hy, L1⟩
    | 2, h => cases h; exact ⟨x2, r2, rfl, rfl, hz, L2'⟩
    | m + 3, h => simp at h
  have tk3 : ([r0, r1, r2] : List Std).take 3 = [r0, r1, r2] := rfl
  refine ⟨_, rfl, a, _, _, _, rfl, rfl, SqL.of h0, a0, x0, _, rfl, .inl (SqL.of hws), _, _, rfl, rfl, ?_⟩
  rw [hwl, l0]
  refine ⟨_, rfl, a, rfl, ⟨_, SqL.of h0⟩, fun D nD => ?_⟩
  refine lc_it walk_list (fun i H' => (∃ ys, H' D = some (.lst ys) ∧ Paired (fun y r => ∃ t, y = .ref t ∧ Ar H' t (arrD r)) ys (([r0, r1, r2] : List Std).take i)) ∧ Same H H') ⟨⟨[], upd_same, .nil⟩, same_upd nD⟩ (fun i H' _ p => p.2.seq (SqL.of h0)) ?_ ?_
  · rintro i v H1 H2 hi ⟨⟨ys, hys, hp⟩, hs⟩ ⟨rfl, hv⟩
    obtain ⟨t, r, rfl, hr3, hst, ok⟩ := stand i v hv
    refine ⟨rfl, yes_go (iteT ?_)⟩
    refine ⟨_, rfl, t, r, rfl, hst.same hs, by rw [ok.lf.nn.len]; exact hn0, by rw [ok.lf.nn.len]; omega, ok.lf.inj, fun p H3 hs3 np hp3 => ?_⟩
    have yl : ys.length ≤ 3 := by
      have := Paired.length hp
      rw [List.length_take] at this
      simp only [List.length_cons, List.length_nil] at this
      omega
    refine ⟨_, hs3 _ _ hys, szl (by omega), ?_, same_put (hs.trans hs3) nD⟩
    rw [take_snoc hr3]
    exact ⟨_, upd_same, paired_snoc (paired_mono (fun _ _ ⟨t, e, q⟩ => ⟨t, e, (q.same hs3).put_lst (hs3 _ _ hys)⟩) hp) ⟨p, rfl, hp3.put_lst (hs3 _ _ hys)⟩⟩
  rintro H1 ⟨⟨ys, hys, hp⟩, hs1⟩
  rw [show ([V.ref x0, V.ref x1, V.ref x2] : List V).length = 3 from rfl, tk3] at hp
  obtain ⟨_, _, _, rfl, ⟨d0, rfl, hd0⟩, ⟨d1, rfl, hd1⟩, ⟨d2, rfl, hd2⟩⟩ := three_of hp
  have hAH : ArL H1 D r0 r1 r2 := ⟨d0, d1, d2, hys, hd0, hd1, hd2⟩
  clear hp hys hd0 hd1 hd2
  -- the books
  refine ⟨_, rfl, a, rfl, ⟨_, SqL.of (hs1 _ _ h0)⟩, fun E nE => ?_⟩
  refine lc_it walk_list (fun i H' => (∃ ys, H' E = some (.lst ys) ∧ Paired (fun y r => ∃ t, y = .ref t ∧ Bk H' t (bookOf r)) ys (([r0, r1, r2] : List Std).take i)) ∧ Same H1 H') ⟨⟨[], upd_same, .nil⟩, same_upd nE⟩ (fun i H' _ p => (hs1.trans p.2).seq (SqL.of h0)) ?_ ?_
  · rintro i v H2 H3 hi ⟨⟨ys, hys, hp⟩, hs⟩ ⟨rfl, hv⟩
    obtain ⟨t, r, rfl, hr3, hst, ok⟩ := stand i v hv
    refine ⟨rfl, yes_go (iteT ?_)⟩
    refine ⟨_, rfl, t, r, rfl, hst.same (hs1.trans hs), by rw [ok.lf.nn.len]; exact hn0, by rw [ok.lf.nn.len]; omega, fun p H4 hs3 np hp3 => ?_⟩
    have yl : ys.length ≤ 3 := by
      have := Paired.length hp
      rw [List.length_take] at this
      simp only [List.length_cons, List.length_nil] at this
      omega
    refine ⟨_, hs3 _ _ hys, szl (by omega), ?_, same_put (hs.trans hs3) nE⟩
    rw [take_snoc hr3]
    exact ⟨_, upd_same, paired_snoc (paired_mono (fun _ _ ⟨t, e, q⟩ => ⟨t, e, Bk.put_lst (hs3 _ _ hys) (Bk.same hs3 q)⟩) hp) ⟨p, rfl, Bk.put_lst (hs3 _ _ hys) hp3⟩⟩
  rintro H2 ⟨⟨ys, hys, hp⟩, hs12⟩
  rw [show ([V.ref x0, V.ref x1, V.ref x2] : List V).length = 3 from rfl, tk3] at hp
  obtain ⟨_, _, _, rfl, ⟨b0, rfl, hb0⟩, ⟨b1, rfl, hb1⟩, ⟨b2, rfl, hb2⟩⟩ := three_of hp
  have hBK : BkL H2 E r0 r1 r2 := ⟨b0, b1, b2, hys, hb0, hb1, hb2⟩
  clear hp hys hb0 hb1 hb2
  have hs2 := hs1.trans hs12
  -- what is due, position by position
  refine ⟨_, rfl, a, rfl, ⟨_, SqL.of (hs2 _ _ h0)⟩, fun G nG => ?_⟩
  refine lc_it walk_list (fun i H' => (∃ ys, H' G = some (.lst ys) ∧ Paired (fun y r => ∃ t, y = .ref t ∧ Ar H' t (arrD r)) ys (([r0, r1, r2] : List Std).take i)) ∧ Same H2 H') ⟨⟨[], upd_same, .nil⟩, same_upd nG⟩ (fun i H' _ p => (hs2.trans p.2).seq (SqL.of h0)) ?_ ?_
  · rintro i v H3 H4 hi ⟨⟨ys, hys, hp⟩, hs⟩ ⟨rfl, hv⟩
    obtain ⟨t, r, rfl, hr3, hst, ok⟩ := stand i v hv
    refine ⟨rfl, yes_go (iteT ?_)⟩
    refine ⟨_, rfl, t, r, rfl, hst.same (hs2.trans hs), by rw [ok.lf.nn.len]; exact hn0, by rw [ok.lf.nn.len]; omega, ok.lf.inj, fun p H5 hs3 np hp3 => ?_⟩
    have yl : ys.length ≤ 3 := by
      have := Paired.length hp
      rw [List.length_take] at this
      simp only [List.length_cons, List.length_nil] at this
      omega
    refine ⟨_, hs3 _ _ hys, szl (by omega), ?_, same_put (hs.trans hs3) nG⟩
    rw [take_snoc hr3]
    exact ⟨_, upd_same, paired_snoc (paired_mono (fun _ _ ⟨t, e, q⟩ => ⟨t, e, (q.same hs3).put_lst (hs3 _ _ hys)⟩) hp) ⟨p, rfl, hp3.put_lst (hs3 _ _ hys)⟩⟩
  rintro H3 ⟨⟨ys, hys, hp⟩, hs23⟩
  rw [show ([V.ref x0, V.ref x1, V.ref x2] : List V).length = 3 from rfl, tk3] at hp
  obtain ⟨_, _, _, rfl, ⟨e0, rfl, he0⟩, ⟨e1, rfl, he1⟩, ⟨e2, rfl, he2⟩⟩ := three_of hp
  have len3 : (arrD r0).length + ((arrD r1).length + (arrD r2).length) < 64 := by
    have := arr_len L0.lf.nn
    have := arr_len L1.lf.nn
    have := arr_len L2'.lf.nn
    omega
  unfold tNil
  refine by_positions_due hys he0 he1 he2 (arr_nodup L0.lf) (arr_nodup L1.lf) (arr_nodup L2'.lf) len3 fun yd H4 hs34 hdue => ?_
  have hs4 := (hs2.trans hs23).trans hs34
  refine ⟨_, rfl, by_places_due (hth.same hs4) L0.lf.nn L1.lf.nn L2'.lf.nn (by omega) fun yb H5 hs45 hdueb => ?_⟩
  have hs5 := hs4.trans hs45
  replace hdue := hdue.same hs45
  replace hAH := hAH.same (((hs12.trans hs23).trans hs34).trans hs45)
  replace hBK := hBK.same ((hs23.trans hs34).trans hs45)
  clear hys hp he0 he1 he2
  clear hs1 hs12 hs2 hs23 hs34 hs4 hs45
  refine ⟨_, rfl, by decide, by decide, ?_⟩
  refine for_it walk_range (fun i σ H' => (∃ u7 u8 u9 u10 u11 u12, σ = [some x, some (.ref a), some (.int ((n : Int) - 1)), some (.ref D), some (.ref E), some yd, some yb, u7, u8, u9, u10, u11, u12, none]) ∧ Same H5 H') ⟨⟨_, _, _, _, _, _, rfl⟩, Same.refl _⟩ (fun _ _ _ _ _ => True.intro) ?_ ?_
  · rintro i v σ H6 H7 hi ⟨⟨u7, u8, u9, u10, u11, u12, rfl⟩, hs6⟩ ⟨rfl, rfl⟩
    obtain ⟨d0, d1, d2, hAHl, hA0, hA1, hA2⟩ := hAH.same hs6
    refine ⟨_, rfl, positions_told_due hAHl hA0 hA1 hA2 len3 fun yt H8 hs8 htd => ?_⟩
    have hs68 := hs6.trans hs8
    obtain ⟨b0, b1, b2, hBKl, hB0, hB1, hB2⟩ := hBK.same hs68
    refine ⟨_, rfl, _, rfl, places_told_due ((hR.same hs5).same hs68) hBKl hB0 hB1 hB2 L0.lf L1.lf L2'.lf hn fun yu H9 hs9 htb => ?_⟩
    have hs69 := hs68.trans hs9
    have htd8 := htd
    replace htd := htd.same hs9
    -- the told is the due
    refine ⟨_, rfl, _, rfl, due_ne htd.due (hdue.same hs69) ?_⟩
    refine ⟨false, rfl, iteF ?_⟩
    refine ⟨_, rfl, _, rfl, dueB_ne htb.1 (hdueb.same hs69) ?_⟩
    refine ⟨false, rfl, iteF ?_⟩
    -- their texts
    unfold tNoPart
    refine ⟨_, rfl, _, rfl, shown_due (n := n) htb.1 L0.lf.nn L1.lf.nn L2'.lf.nn L1.sm L2'.sm (by omega) fun p1 z1 np1 ez1 H10 hs10 => ?_⟩
    refine ⟨_, rfl, _, rfl, shown_due (n := n) (hdueb.same (hs69.trans hs10)) L0.lf.nn L1.lf.nn L2'.lf.nn L1.sm L2'.sm (by omega) fun p2 z2 np2 ez2 H11 hs11 => ?_⟩
    have hs1 := hs69.trans (hs10.trans hs11)
    obtain ⟨yb0, rfl, hdb⟩ := id hdueb
    refine ⟨rfl, _, rfl, ?_⟩
    have aux : ∀ {T G : Prop}, (T → G) → T → G := fun h t => h t
    refine aux (fun main => ite2 (fun c => ?_) (fun c => iteF main)) ?_
    · have c' : z1 ≠ z2 := by
        intro e
        subst e
        simp at c
      rcases hdb with ⟨_, _, d, h1, _⟩ | ⟨hc, hb, br, z, hf, h1, _⟩ | ⟨_, _, l, _, h1, _⟩
      · exact ⟨_, rfl, yb0, _, _, _, rfl, rfl, SqT.of (hs1 _ _ h1), atI_nat (j := 0) rfl, rfl, _, rfl, iteF main⟩
      · exfalso
        refine c' ((ez1 ?_).trans (ez2 ⟨yb0, _, _, rfl, (hs69.trans hs10) _ _ h1⟩).symm)
        obtain ⟨t, rfl, ⟨_, hb', _⟩ | ⟨_, _, _, z', _, g1, _⟩ | ⟨_, _, _, hc', _⟩⟩ := htb.1
        · exact absurd hb' hb
        · exact ⟨t, _, _, rfl, g1⟩
        · rw [hc] at hc'; cases hc'
      · exact ⟨_, rfl, yb0, _, _, _, rfl, rfl, SqT.of (hs1 _ _ h1), atI_nat (j := 0) rfl, rfl, _, rfl, iteF main⟩
    -- what is told position by position
    have hs911 := hs10.trans hs11
    have nob : clashS r0 r1 r2 = none → brk (mrgS r0 r1 r2) = "" → ∃ t d, yu = .ref t ∧ H9 t = some (.tup [.str "book", .ref d]) ∧ Bk H9 d (bookOf (mrgS r0 r1 r2)) ∧ H5 d = none := by
      intro hc hb
      obtain ⟨t, rfl, ⟨_, _, d, g1, g2⟩ | ⟨_, hb', _⟩ | ⟨_, _, _, hc', _⟩⟩ := htb.1
      · refine ⟨t, d, rfl, g1, g2, ?_⟩
        have nd := htb.2 t d rfl g1
        exact hs68.free nd
      · exact absurd hb hb'
      · rw [hc] at hc'; cases hc'
    refine ⟨fun σ' H' => (∃ u, σ' = [some x, some (.ref a), some (.int ((n : Int) - 1)), some (.ref D), some (.ref E), some yd, some (.ref yb0), some (.int (0 + ((i : Nat) : Int))), some yt, some yu, u, u11, u12, none]) ∧ Same H5 H' ∧ (clashS r0 r1 r2 = none → brk (mrgS r0 r1 r2) = "" → ∃ t d, yu = .ref t ∧ H' t = some (.tup [.str "book", .ref d]) ∧ Bk H' d (bookOf (mrgS r0 r1 r2)) ∧ H5 d = none), ?_, ?_⟩
    · obtain ⟨td, rfl, hdd⟩ := hdue.same hs1
      rcases hdd with ⟨hc, d, h1, h2⟩ | ⟨q, hc, h1⟩
      · refine ⟨_, rfl, td, _, _, _, rfl, rfl, SqT.of h1, atI_nat (j := 0) rfl, rfl, _, rfl, iteT ?_⟩
        obtain ⟨tt, rfl, ⟨_, dt, g1, g2, g3⟩ | ⟨_, hc', _⟩⟩ := htd
        rotate_left
        · rw [hc] at hc'; cases hc'
        have at1 : atI [V.str "told", V.ref dt] 1 = some (.ref dt) := atI_nat (j := 1) rfl
        refine ⟨_, rfl, tt, _, _, _, rfl, rfl, SqT.of (hs911 _ _ g1), at1, dt, _, rfl, g2.same hs911, mrgP_nodup _ _ _, fun H12 hs12 => ?_⟩
        have hs912 := hs911.trans hs12
        have hs5c := hs1.trans hs12
        refine ⟨true, rfl, iteF ?_⟩
        have ml : (mrgP (arrD r0) (arrD r1) (arrD r2)).length < 64 := Nat.lt_of_le_of_lt (mrgP_len _ _ _) len3
        refine ⟨_, rfl, _, rfl, tt, _, _, _, rfl, rfl, SqT.of (hs912 _ _ g1), at1, a, dt, r0, r1, r2, _, n, rfl, (hth.same hs5).same hs5c, l0, l1, l2, hn0, by omega, g2.same hs912, mrgP_nodup _ _ _, ml, fun i h1 h2 p1 p2 => lost_in L0.lf L1.lf L2'.lf hc h1 h2 p1 p2, lost_two L0.lf L1.lf L2'.lf hc, twL_sorted _ _ _, fun H13 hs13 => ?_⟩
        have hs913 := hs912.trans hs13
        have hs5d := hs5c.trans hs13
        refine ⟨true, rfl, iteF ?_⟩
        have aux2 : ∀ {T : Hp → Prop} {G : Prop}, ((∀ H', Same H13 H' → T H') → G) → (∀ H', Same H13 H' → T H') → G := fun h t => h t
        refine aux2 (fun main => hdb.elim (fun hB => ?_) (fun h => h.elim (fun hR => ?_) (fun hP => hP.elim fun i' hP => hP.elim fun s' hP => hP.elim fun l hP => ⟨_, rfl, yb0, _, _, _, rfl, rfl, SqT.of (hs5d _ _ hP.2.1), atI_nat (j := 0) rfl, rfl, _, rfl, iteF (iteF (main H13 (Same.refl _)))⟩))) ?_
        · obtain ⟨hs, hb, d', j1, j2⟩ := hB
          · refine ⟨_, rfl, yb0, _, _, _, rfl, rfl, SqT.of (hs5d _ _ j1), atI_nat (j := 0) rfl, rfl, _, rfl, iteT ?_⟩
            refine ⟨_, rfl, tt, _, _, _, rfl, rfl, SqT.of (hs913 _ _ g1), at1, dt, _, rfl, g2.same hs913, ml, fun ks p H14 _ mem hs14 np hls => ?_⟩
            have ke : ks = [] := List.eq_nil_iff_forall_not_mem.mpr fun k hk => by
              have := (lost_two L0.lf L1.lf L2'.lf hc k).mp ((mem k).mp hk)
              rw [go_tw L0.lf hs] at this
              cases this
            subst ke
            refine ⟨szr, fun p2 np2 => ?_⟩
            have s2 := same_upd (o := .lst []) np2
            refine ⟨.list [], .list [], .lst (SqL.of (s2 _ _ hls)) .nil, .lst (SqL.of upd_same) .nil, rfl, rfl, ?_⟩
            refine ⟨false, rfl, iteF ?_⟩
            obtain ⟨tb, db, rfl, k1, k2, k3⟩ := nob hs hb
            have gM := mrg_nn L0.lf.nn L1.lf.nn L2'.lf.nn
            have LM := lf_of_brk gM hb
            have s914 := hs913.trans (hs14.trans s2)
            refine ⟨_, rfl, tb, _, _, _, rfl, rfl, SqT.of (s914 _ _ k1), atI_nat (j := 1) rfl, _, rfl, db, bookOf (mrgS r0 r1 r2), n - 1, by show [V.ref db, V.int ((n : Int) - 1)] = _; rw [show ((n : Int) - 1) = ((n - 1 : Nat) : Int) from by omega], s914 _ _ k2, by omega, arrF_nodup LM, fun pA H16 hs16 npA hAr => ?_⟩
            refine ⟨_, rfl, tt, _, _, _, rfl, rfl, SqT.of ((s914.trans hs16) _ _ g1), at1, DEq.ne (ar_eq hAr (g2.same (s914.trans hs16)) (arrF_nodup LM) (mrgP_nodup _ _ _) fun e => (mem_arrF gM).trans (go_arr L0.lf L1.lf L2'.lf hc hs)) (by decide) ⟨false, rfl, iteF (main H16 ((hs14.trans s2).trans hs16))⟩⟩
        · obtain ⟨_, hb, br, z, hf, j1, _⟩ := hR
          exact ⟨_, rfl, yb0, _, _, _, rfl, rfl, SqT.of (hs5d _ _ j1), atI_nat (j := 0) rfl, rfl, _, rfl, iteF (iteF (main H13 (Same.refl _)))⟩
        intro H15 hs15
        have hs915 := hs913.trans hs15
        obtain ⟨ks, hk, hkp⟩ := g2.same hs915
        refine ⟨_, rfl, tt, _, _, _, rfl, rfl, SqT.of (hs915 _ _ g1), at1, ?_⟩
        have kl : ks.length < 64 := by rw [Paired.length hkp]; exact ml
        have nd5 : H5 dt = none := hs6.free g3
        refine ⟨szr, fun q nq => ⟨_, rfl, dt, _, rfl, DPut.k (k := .inl 9000) ((same_upd nq) _ _ hk) (szl (by omega)), ⟨_, rfl⟩, ?_, ?_⟩⟩
        · exact same_put ((hs5d.trans hs15).trans (same_upd nq)) nd5
        · intro hcs hb
          obtain ⟨t, d', e, j1, j2, j3⟩ := nob hcs hb
          have n8 := htb.2 t d' e j1
          have ne1 : d' ≠ dt := by
            intro z
            subst z
            obtain ⟨t8, e8, ⟨_, d8, q1, ⟨ks8, q2, _⟩, _⟩ | ⟨_, hc', _⟩⟩ := htd8
            · cases e8
              have q3 := hs9 _ _ q1
              rw [g1] at q3
              cases q3
              rw [n8] at q2
              cases q2
            · rw [hc] at hc'; cases hc'
          have ne2 : t ≠ dt := by
            intro z
            subst z
            obtain ⟨_, w1, _⟩ := g2
            rw [w1] at j1
            cases j1
          have sq := hs915.trans (same_upd (o := .tup [V.int 1, V.int 1]) nq)
          exact ⟨t, d', e, by rw [upd_ne ne2]; exact sq _ _ j1, by rw [Bk, upd_ne ne1]; exact sq _ _ j2, j3⟩
      · refine ⟨_, rfl, td, _, _, _, rfl, rfl, SqT.of h1, atI_nat (j := 0) rfl, rfl, _, rfl, iteF ?_⟩
        refine ⟨⟨_, rfl⟩, hs1, fun hc hb => ?_⟩
        obtain ⟨t, d, e, g1, g2, g3⟩ := nob hc hb
        exact ⟨t, d, e, hs911 _ _ g1, hs911 _ _ g2, g3⟩
    · rintro σ' H12 ⟨⟨u, rfl⟩, hs12, hbk⟩
      refine ⟨fun σ' H' => (∃ u v, σ' = [some x, some (.ref a), some (.int ((n : Int) - 1)), some (.ref D), some (.ref E), some yd, some (.ref yb0), some (.int (0 + ((i : Nat) : Int))), some yt, some yu, u, v, u12, none]) ∧ Same H5 H', ?_, ?_⟩
      · rcases hdb with ⟨hs, hb, d', j1, j2⟩ | ⟨_, hb, br, z, hf, j1, _⟩ | ⟨_, _, l, _, j1, _⟩
        · refine ⟨_, rfl, yb0, _, _, _, rfl, rfl, SqT.of (hs12 _ _ j1), atI_nat (j := 0) rfl, rfl, _, rfl, iteT ?_⟩
          obtain ⟨tb, db, rfl, k1, k2, k3⟩ := hbk hs hb
          have bt1 : atI [V.str "book", V.ref db] 1 = some (.ref db) := atI_nat (j := 1) rfl
          refine ⟨_, rfl, tb, _, _, _, rfl, rfl, SqT.of k1, bt1, db, _, rfl, k2, nodup_of_sorted (book_sorted _), ?_⟩
          refine ⟨true, rfl, iteF ?_⟩
          have bl := book_len (mrg_nn L0.lf.nn L1.lf.nn L2'.lf.nn)
          refine ⟨_, rfl, tb, _, _, _, rfl, rfl, SqT.of k1, bt1, ?_⟩
          refine ⟨_, rfl, db, _, rfl, DPut.k (k := .inl 255) k2 (szl (by rw [kvI_len]; omega)), ⟨_, _, rfl⟩, same_put hs12 k3⟩
        · exact ⟨_, rfl, yb0, _, _, _, rfl, rfl, SqT.of (hs12 _ _ j1), atI_nat (j := 0) rfl, rfl, _, rfl, iteF ⟨⟨_, _, rfl⟩, hs12⟩⟩
        · exact ⟨_, rfl, yb0, _, _, _, rfl, rfl, SqT.of (hs12 _ _ j1), atI_nat (j := 0) rfl, rfl, _, rfl, iteF ⟨⟨_, _, rfl⟩, hs12⟩⟩
      · rintro σ2 H14 ⟨⟨u, v, rfl⟩, hs14⟩
        refine ⟨_, rfl, by decide, by decide, ?_⟩
        refine for_it walk_range (fun j σ H' => (∃ w12, σ = [some x, some (.ref a), some (.int ((n : Int) - 1)), some (.ref D), some (.ref E), some yd, some (.ref yb0), some (.int (0 + ((i : Nat) : Int))), some yt, some yu, u, v, w12, none]) ∧ Same H5 H') ⟨⟨_, rfl⟩, hs14⟩ (fun _ _ _ _ _ => True.intro) ?_ ?_
        · rintro j vj σ3 H15 H16 hj ⟨⟨w12, rfl⟩, hs15⟩ ⟨rfl, rfl⟩
          obtain ⟨D0, D1, D2, hDl, hD0, hD1, hD2⟩ := hAH
          obtain ⟨B0, B1, B2, hBl, hB0, hB1, hB2⟩ := hBK
          have pick : ∃ dj bj xj rj, atI [V.ref D0, V.ref D1, V.ref D2] (0 + (j : Int)) = some (.ref dj) ∧ atI [V.ref B0, V.ref B1, V.ref B2] (0 + (j : Int)) = some (.ref bj) ∧ atI [V.ref x0, V.ref x1, V.ref x2] (0 + (j : Int)) = some (.ref xj) ∧ Ar H5 dj (arrD rj) ∧ Bk H5 bj (bookOf rj) ∧ St H xj rj ∧ Ok n rj := by
            match j, hj with
            | 0, _ => exact ⟨D0, B0, x0, r0, atI_nat (j := 0) rfl, atI_nat (j := 0) rfl, atI_nat (j := 0) rfl, hD0, hB0, hx, L0⟩
            | 1, _ => exact ⟨D1, B1, x1, r1, atI_nat (j := 1) rfl, atI_nat (j := 1) rfl, atI_nat (j := 1) rfl, hD1, hB1, hy, L1⟩
            | 2, _ => exact ⟨D2, B2, x2, r2, atI_nat (j := 2) rfl, atI_nat (j := 2) rfl, atI_nat (j := 2) rfl, hD2, hB2, hz, L2'⟩
          obtain ⟨dj, bj, xj, rj, p1, p2, p3, pA, pB, pS, pO⟩ := pick
          have rl := pO.lf.nn.len
          have s15 := hs5.trans hs15
          refine ⟨_, rfl, _, rfl, D, _, _, _, rfl, rfl, SqL.of (hs15 _ _ hDl), p1, _, rfl, _, rfl, a, _, _, _, rfl, rfl, SqL.of (s15 _ _ h0), p3, xj, rj, rfl, pS.same s15, by rw [rl]; exact hn0, by rw [rl]; omega, pO.lf.inj, fun q1 H17 hs17 nq1 hq1 => ?_⟩
          have t17 := hs15.trans hs17
          refine DEq.ne (ar_eq (pA.same t17) hq1 (arr_nodup pO.lf) (arr_nodup pO.lf) fun _ => Iff.rfl) (by decide) ⟨false, rfl, iteF ?_⟩
          refine ⟨_, rfl, _, rfl, E, _, _, _, rfl, rfl, SqL.of (t17 _ _ hBl), p2, _, rfl, _, rfl, a, _, _, _, rfl, rfl, SqL.of ((hs5.trans t17) _ _ h0), p3, xj, rj, rfl, pS.same (hs5.trans t17), by rw [rl]; exact hn0, by rw [rl]; omega, fun q2 H18 hs18 nq2 hq2 => ?_⟩
          have t18 := t17.trans hs18
          refine DEq.ne (bk_eq (Bk.same t18 pB) hq2 (nodup_of_sorted (book_sorted _))) (by decide) ⟨false, rfl, iteF ?_⟩
          refine ⟨_, rfl, _, rfl, E, _, _, _, rfl, rfl, SqL.of (t18 _ _ hBl), p2, _, rfl, bj, bookOf rj, n - 1, by show [V.ref bj, V.int ((n : Int) - 1)] = _; rw [show ((n : Int) - 1) = ((n - 1 : Nat) : Int) from by omega], Bk.same t18 pB, by omega, arrF_nodup pO.lf, fun q3 H19 hs19 nq3 hq3 => ?_⟩
          have t19 := t18.trans hs19
          refine ⟨_, rfl, _, rfl, D, _, _, _, rfl, rfl, SqL.of (t19 _ _ hDl), p1, DEq.ne (ar_eq hq3 (pA.same t19) (arrF_nodup pO.lf) (arr_nodup pO.lf) fun _ => mem_arrF pO.lf.nn) (by decide) ⟨false, rfl, iteF ⟨⟨_, rfl⟩, t19⟩⟩⟩
        · rintro σ3 H15 ⟨⟨w12, rfl⟩, hs15⟩
          exact ⟨⟨_, _, _, _, _, _, rfl⟩, hs15⟩
  · rintro σ H6 ⟨⟨u7, u8, u9, u10, u11, u12, rfl⟩, hs6⟩
    exact hQ _ (hs5.trans hs6)
end
end K80
end
section
set_option maxHeartbeats 8000000
namespace K80
open PySem PySem.Spec PyProof.Rows L2 Inf
/-! ### plain -/
theorem pigeon : ∀ {l m : List Int}, l.Nodup → (∀ x ∈ l, x ∈ m) → l.length ≤ m.length
  | [], _, _, _ => Nat.zero_le _
  | x :: l, m, nd, h => by
    have n1 := List.nodup_cons.mp nd
    have hx := h x List.mem_cons_self
    have := pigeon (l := l) (m := m.erase x) n1.2 fun y hy => (List.mem_erase_of_ne (fun e => by subst e; exact n1.1 hy)).mpr (h y (List.mem_cons_of_mem _ hy))
    rw [List.length_erase_of_mem hx] at this
    have := List.length_pos_of_mem hx
    simp only [List.length_cons]
    omega
theorem upTo_nodup (n : Nat) : (upTo n).Nodup := by
  unfold upTo
  rw [List.nodup_iff_pairwise_ne, List.pairwise_map]
  exact List.Pairwise.imp (fun h e => h (by omega)) (List.nodup_iff_pairwise_ne.mp List.nodup_range)
theorem pos_free {l : List Int} {n : Nat} (hl : l.length = n) (h0 : (0 : Int) ∈ l) : ∃ p ∈ upTo n, p ∉ l := by
  refine Classical.byContradiction fun h => ?_
  have all : ∀ x ∈ ((0 : Int) :: upTo n), x ∈ l := by
    intro x hx
    rcases List.mem_cons.mp hx with rfl | hx
    · exact h0
    · exact Classical.byContradiction fun z => h ⟨x, hx, z⟩
  have := pigeon (List.nodup_cons.mpr ⟨fun m => by have := (mem_upTo m).1; omega, upTo_nodup n⟩) all
  rw [List.length_cons, upTo_len] at this
  omega
theorem std_ext {a b : Std} (hl : a.length = b.length) (h : ∀ j, j < a.length → row a j = row b j) : a = b := by
  refine List.ext_getElem? fun j => ?_
  by_cases hj : j < a.length
  · rw [row_get hj, row_get (hl ▸ hj), h j hj]
  · rw [List.getElem?_eq_none (by omega), List.getElem?_eq_none (by omega)]
theorem Lw.ok {n : Nat} {rows : Std} (h : Lw n rows) (hn : 0 < n) : Ok n rows := ⟨h.lf hn, fun i => ⟨by have := (h.g.bd i).2.1; omega, by have := (h.g.bd i).2.2.2; omega⟩⟩
/-- one row set anew -/
theorem Ok.set {n : Nat} {rows : Std} (h : Ok n rows) {i : Nat} (h1 : 1 ≤ i) (h2 : i < n) {p c : Int} (p1 : 0 < p) (p2 : p < 100000) (c1 : 0 < c) (c2 : c < 100000) (fr : ∀ j, j ≠ i → (row rows j).1 ≠ p) : Ok n (rows.set i (p, c)) := by
  have rs := fun j => row_set (rows := rows) (i := i) (p := (p, c)) (by rw [h.lf.nn.len]; exact h2) j
  refine ⟨⟨⟨by rw [List.length_set]; exact h.lf.nn.len, h.lf.nn.pos, ?_, fun j => ?_⟩, fun j k hp he => ?_, fun j => ?_⟩, fun j => ?_⟩
  · rw [rs, if_neg (by omega)]; exact h.lf.nn.zero
  · rw [rs]; split
    · exact ⟨by show 0 ≤ p; omega, by show 0 ≤ c; omega⟩
    · exact h.lf.nn.nn j
  · rw [rs] at hp he
    rw [rs] at he
    by_cases ej : j = i
    · rw [if_pos ej] at he
      by_cases ek : k = i
      · rw [ej, ek]
      · rw [if_neg ek] at he
        exact absurd he.symm (fr k ek)
    · rw [if_neg ej] at he hp
      by_cases ek : k = i
      · rw [if_pos ek] at he
        exact absurd he (fr j ej)
      · rw [if_neg ek] at he
        exact h.lf.inj j k hp he
  · rw [rs]; split
    · exact ⟨fun _ => c1, fun _ => p1⟩
    · exact h.lf.both j
  · rw [rs]; split
    · exact ⟨p2, c2⟩
    · exact h.sm j
theorem mval_b {b : Int} : mval b b b = some b := by unfold mval; rw [if_pos rfl]
theorem mval_o {b o : Int} : mval b o b = some o := by
  unfold mval
  by_cases e : o = b
  · rw [if_pos e]
  · rw [if_neg e, if_neg e, if_pos rfl]
theorem mval_t {b t : Int} : mval b b t = some t := by
  unfold mval
  by_cases e : b = t
  · rw [if_pos e, e]
  · rw [if_neg e, if_pos rfl]
section
variable {n : Nat} {rows : Std} {i : Nat} {p c : Int}
theorem mv_moved (hl : rows.length = n) (h2 : i < n) {j s : Nat} (hs : s < 2) : mvS rows (rows.set i (p, (row rows i).2)) (rows.set i ((row rows i).1, c)) (j, s) = some (sd (row (rows.set i (p, c)) j) s) := by
  unfold mvS
  simp only
  rw [row_set (by rw [hl]; exact h2), row_set (by rw [hl]; exact h2), row_set (by rw [hl]; exact h2)]
  by_cases e : j = i
  · subst e
    rw [if_pos rfl, if_pos rfl, if_pos rfl]
    match s, hs with
    | 0, _ => exact mval_o
    | 1, _ => exact mval_t
  · rw [if_neg e, if_neg e, if_neg e]
    exact mval_b
theorem clash_moved (hl : rows.length = n) (h2 : i < n) : clashS rows (rows.set i (p, (row rows i).2)) (rows.set i ((row rows i).1, c)) = none := by
  unfold clashS
  rw [List.find?_eq_none]
  rintro ⟨j, s⟩ hq
  have := (mem_plc.mp hq).2.2
  rw [mv_moved hl h2 this]
  simp
theorem mrg_moved (h0 : Nn n rows) (h1 : 1 ≤ i) (h2 : i < n) : mrgS rows (rows.set i (p, (row rows i).2)) (rows.set i ((row rows i).1, c)) = rows.set i (p, c) := by
  have hl := h0.len
  have len : (mrgS rows (rows.set i (p, (row rows i).2)) (rows.set i ((row rows i).1, c))).length = n := by
    unfold mrgS
    rw [mrgTo_len, hl]
    have := h0.pos
    omega
  refine std_ext (by rw [len, List.length_set, hl]) fun j hj => ?_
  rw [len] at hj
  by_cases j0 : j = 0
  · subst j0
    rw [row_set (by rw [hl]; exact h2), if_neg (by omega), h0.zero]
    rfl
  · rw [mrg_row h0 (by omega) hj]
    unfold mrow
    rw [mv_moved hl h2 (by decide), mv_moved hl h2 (by decide)]
    rfl
end
/-- the items that stand -/
def stL (rows : Std) (m : Nat) : List Int := ((List.range m).filter fun j => decide (0 < (row rows (1 + j)).1)).map fun (j : Nat) => (1 : Int) + (j : Int)
theorem stL_succ (rows : Std) (m : Nat) : stL rows (m + 1) = stL rows m ++ if 0 < (row rows (1 + m)).1 then [1 + (m : Int)] else [] := by
  unfold stL
  rw [List.range_succ, List.filter_append, List.map_append]
  congr 1
  by_cases c : 0 < (row rows (1 + m)).1 <;> simp [c]
theorem stL_len (rows : Std) (m : Nat) : (stL rows m).length ≤ m := by
  have := List.length_filter_le (fun j => decide (0 < (row rows (1 + j)).1)) (List.range m)
  simpa [stL] using this
theorem mem_stL {rows : Std} {m : Nat} {k : Int} (h : k ∈ stL rows m) : ∃ i : Nat, k = (i : Int) ∧ 1 ≤ i ∧ i ≤ m ∧ 0 < (row rows i).1 := by
  obtain ⟨j, hj, rfl⟩ := List.mem_map.mp h
  obtain ⟨h1, h2⟩ := List.mem_filter.mp hj
  have := List.mem_range.mp h1
  exact ⟨1 + j, by omega, by omega, by omega, of_decide_eq_true h2⟩
/-! ### the rulebook stands when the box changes -/
theorem RbI.but {CR CA CN b : Addr} {H H' : Hp} (e : SameBut b H H') (hb : Box H b) {x : V} {n : Nat} (h : RbI CR CA CN H x n) : RbI CR CA CN H' x n := by
  obtain ⟨m, c, k, hb⟩ := hb
  have far : ∀ {q : Addr} {o : HO}, H q = some o → o ≠ .lst [.int m, .int c, .int k] → H' q = some o := fun {q o} hq ne => e _ _ (fun z => by subst z; rw [hb] at hq; exact ne (Option.some.inj hq).symm) hq
  have farL : ∀ {q t : Addr} {r : List V}, H q = some (.lst (.ref t :: r)) → H' q = some (.lst (.ref t :: r)) := fun {q t r} hq => far hq (fun z => by simp at z)
  obtain ⟨a, dx, l, y1, y2, h1, h2, ⟨t1, t2, g1, g2, g3⟩, ⟨a1, d1, pl, wd, f1, f2, f3⟩, ⟨a2, d2, l2, pl2, wd2, k1, k2, ⟨xs, k3, k4⟩⟩⟩ := h
  refine ⟨a, dx, l, y1, y2, h1, far h2 nofun, ⟨t1, t2, farL g1, far g2 nofun, far g3 nofun⟩, ⟨a1, d1, pl, wd, f1, far f2 nofun, far f3 nofun⟩, ⟨a2, d2, l2, pl2, wd2, k1, far k2 nofun, ⟨xs, far k3 (fun z => ?_), paired_mono (fun _ _ ⟨t, z1, z2⟩ => ⟨t, z1, far z2 nofun⟩) k4⟩⟩⟩
  have : xs = [.int m, .int c, .int k] := by cases z; rfl
  subst this
  generalize pairsN n = z at k4
  cases k4 with
  | cons r _ => obtain ⟨t, q, _⟩ := r; cases q
/-- a copy of rows under way -/
def Cp (H0 : Hp) (D : Addr) (rows : Std) (i : Nat) (H' : Hp) : Prop := ∃ ys, H' D = some (.lst ys) ∧ Paired (Row H') ys (rows.take i) ∧ ys.Nodup ∧ (∀ y ∈ ys, ∃ t, y = V.ref t ∧ H0 t = none ∧ H' t ≠ none)
theorem Cp.step {H0 H' : Hp} {D q : Addr} {rows : Std} {i : Nat} {r : Int × Int} (h : Cp H0 D rows i H') (hs : Same H0 H') (hr : rows[i]? = some r) (nq : H' q = none) :
    ∃ ys, H' D = some (.lst ys) ∧ Cp H0 D rows (i + 1) (upd (upd H' q (.lst [.int r.1, .int r.2])) D (.lst (ys ++ [.ref q]))) := by
  obtain ⟨ys, hy, hyp, hnd, hnew⟩ := h
  have s2 := same_upd (o := .lst [.int r.1, .int r.2]) nq
  have nqD : q ≠ D := fun e => by rw [e, hy] at nq; cases nq
  refine ⟨ys, hy, _, upd_same, ?_, ?_, ?_⟩
  · rw [take_snoc hr]
    have put : ∀ {x : V} {p : Int × Int}, (∃ t, x = V.ref t ∧ H0 t = none ∧ H' t ≠ none) → Row H' x p → Row (upd (upd H' q (.lst [.int r.1, .int r.2])) D (.lst (ys ++ [.ref q]))) x p := by
      rintro x p ⟨u, e, _, _⟩ ⟨u', e', hu'⟩
      refine ⟨u', e', ?_⟩
      rw [upd_ne (fun z => ?_)]
      · exact s2 _ _ hu'
      · rw [z, hy] at hu'
        have : ys = [V.int p.1, V.int p.2] := by cases hu'; rfl
        obtain ⟨_, e2, _⟩ := hnew (.int p.1) (by rw [this]; simp)
        cases e2
    have keep : ∀ {ys' : List V} {ps : Std}, Paired (Row H') ys' ps → (∀ y ∈ ys', ∃ t, y = V.ref t ∧ H0 t = none ∧ H' t ≠ none) → Paired (Row (upd (upd H' q (.lst [.int r.1, .int r.2])) D (.lst (ys ++ [.ref q])))) ys' ps := by
      intro ys' ps hq
      induction hq with
      | nil => intro _; exact .nil
      | cons a _ ih => intro h; exact .cons (put (h _ List.mem_cons_self) a) (ih fun y hy => h y (List.mem_cons_of_mem _ hy))
    refine paired_snoc (keep hyp hnew) ⟨q, rfl, ?_⟩
    rw [upd_ne nqD]
    exact upd_same
  · refine nd_snoc hnd fun m => ?_
    obtain ⟨t', e, _, hn⟩ := hnew _ m
    cases e
    exact hn nq
  · intro y hy'
    rcases List.mem_append.mp hy' with h | h
    · obtain ⟨t', e, h1, h2⟩ := hnew y h
      refine ⟨t', e, h1, fun z => h2 ?_⟩
      by_cases e1 : t' = D
      · rw [e1, upd_same] at z; cases z
      · rw [upd_ne e1] at z
        exact s2.free z
    · rw [List.mem_singleton.mp h]
      refine ⟨q, rfl, hs.free nq, ?_⟩
      rw [upd_ne nqD, upd_same]
      simp
/-- rows under way when another row changes -/
theorem Wk.far {b : Addr} {H : Hp} {D : Addr} {xs : List V} {H1 : Hp} {rows : Std} (w : Wk b H D xs H1 rows) {t : Addr} {o : HO} (nt : H t = none) (nD : D ≠ t) (nx : V.ref t ∉ xs) (nb : b ≠ t) : Wk b H D xs (upd H1 t o) rows := by
  refine ⟨by rw [upd_ne nD]; exact w.lst, ?_, w.nd, w.new, fun c u n q => by rw [upd_ne (ne_of_none q nt)]; exact w.sb _ _ n q, ?_, w.nD⟩
  · have keep : ∀ {ys : List V} {ps : Std}, Paired (Row H1) ys ps → V.ref t ∉ ys → Paired (Row (upd H1 t o)) ys ps := by
      intro ys ps hq
      induction hq with
      | nil => intro _; exact .nil
      | cons a _ ih2 =>
        intro nm
        obtain ⟨u, e, hu⟩ := a
        refine .cons ⟨u, e, ?_⟩ (ih2 fun m => nm (List.mem_cons_of_mem _ m))
        rw [upd_ne (fun z => nm (by rw [e, z]; exact List.mem_cons_self))]
        exact hu
    exact keep w.rws nx
  · obtain ⟨m, c, k, z⟩ := w.bx
    exact ⟨m, c, k, by rw [upd_ne nb]; exact z⟩
section
variable {P : Program} {w : World} {K : PySem.W.Frag} {mg : Str → Option Value} {base : Heap} {f : Addr} {fd : FuncData}
/-! ### _law_one_moved -/
def sp_one_moved (CR CA CN : Addr) (K : PySem.W.Frag) : Sp := fun vs H Q _ => ∃ (b a : Addr) (x : V) (rows : Std) (n : Nat), vs = [.ref b, x, .ref a] ∧ Box H b ∧ RbI CR CA CN H x (n - 1) ∧ St H a rows ∧ Lw n rows ∧ 0 < n ∧ n ≤ 16 ∧ ∀ H', SameBut b H H' → Box H' b → Q (.bl true) H'
theorem ok_one_moved {CR CA CN : Addr} (F : FnP K "_law_one_moved" "_law_one_moved" s_one_moved f fd) (B : BT mg) (G_take : Has P w K mg base CX0 1 "_law_take" sp_take) (G_moving : Has P w K mg base CX0 2 "moving" sp_moving) (G_changing : Has P w K mg base CX0 2 "changing" sp_changing)
    (G_by_places : Has P w K mg base CX0 2 "_law_by_places" (sp_by_places K)) (G_judged : HasG P w K mg base 9 "_law_judged" (sp_judged CR CA CN K)) :
    FnG P w K mg base 10 f fd ["_law_box", "_law_rules", "_law_stand"] (sp_one_moved CR CA CN K) := by
  refine fnG_of F sc_one_moved (fun vs H Q E h => ?_) (fun cdv A outer s H vs Q E hg hr h => ?_)
  · obtain ⟨_, _, _, _, _, rfl, _⟩ := h
    rfl
  obtain ⟨b, a, x, rows, n, rfl, hb, hR, hst, hlw, hn0, hn, hQ⟩ := h
  have hu := hu_of hr
  refine ⟨_, pss_cons (ps_setLc (i := 3) (own := [("_law_item", 4)]) (g := gName 4) rfl sc_one_moved.nd rfl rfl (sw_true rfl rfl rfl (by decide +kernel)) (pi_range2 rfl B.range (pa_cons pe_int (pa_cons (pe_callB call_len_seq (by rfl) B.len (by decide +kernel) (pa_cons (pv 2) pa_nil)) pa_nil))) (blkOk_by (own := [("_law_item", 4)]) (N := ["_law_box", "_law_rules", "_law_stand", "_law_standing", "_law_item", "_law_used", "_law_position", "_law_content", "_law_first", "_law_second", "_law_row", "_law_p"]) (sc := defScope s_one_moved) (by decide +kernel)) (fun _ _ _ _ _ => (pg_name (i := 4) sc_one_moved.nd rfl (Or.inl rfl))) (fun _ _ _ _ _ => (pts_one (pt_cmpR op_gt (pe_ix (ixList K) (pe_ix (ixList K) (pv 2) (pv 4) (fun _ _ => rfl)) pe_int (fun _ _ => rfl)) pe_int (nomark _)))) (fun _ _ _ _ _ => (pv 4)))
    (pss_cons (ps_if (pt_cmpR op_eq (pe_callB call_len_seq (by rfl) B.len (by decide +kernel) (pa_cons (pv 3) pa_nil)) pe_int (nomark _))
     (pss_one (ps_ret pe_bl))
     pss_nil)
    (pss_cons (ps_set (i := 4) sc_one_moved.nd rfl (.inl rfl) (pe_ix ix_list (pv 3) (pe_c G_take hr (pa_cons (pv 0) (pa_cons (pe_callB call_len_seq (by rfl) B.len (by decide +kernel) (pa_cons (pv 3) pa_nil)) pa_nil))) (fun _ _ => rfl)))
    (pss_cons (ps_set (i := 5) sc_one_moved.nd rfl (.inr rfl) (pe_lc (own := [("_law_row", 10)]) (g := gName 10) (tt := tYes) rfl sc_one_moved.nd (pi_list (pv 2)) (blkOk_by (own := [("_law_row", 10)]) (N := ["_law_box", "_law_rules", "_law_stand", "_law_standing", "_law_item", "_law_used", "_law_position", "_law_content", "_law_first", "_law_second", "_law_row", "_law_p"]) (sc := defScope s_one_moved) (by decide +kernel)) (fun _ _ _ _ _ => (pg_name (i := 10) sc_one_moved.nd rfl (Or.inl rfl))) (fun _ _ _ _ _ => pts_nil) (fun _ _ _ _ _ => (pe_ix (ixList K) (pv 10) pe_int (fun _ _ => rfl)))))
    (pss_cons (ps_set (i := 6) sc_one_moved.nd rfl (.inl rfl) (pe_ix ix_list (pe_lc (own := [("_law_p", 11)]) (g := gName 11) rfl sc_one_moved.nd (pi_range2 rfl B.range (pa_cons pe_int (pa_cons (pe_op op_add (pe_callB call_len_seq (by rfl) B.len (by decide +kernel) (pa_cons (pv 2) pa_nil)) pe_int) pa_nil))) (blkOk_by (own := [("_law_p", 11)]) (N := ["_law_box", "_law_rules", "_law_stand", "_law_standing", "_law_item", "_law_used", "_law_position", "_law_content", "_law_first", "_law_second", "_law_row", "_law_p"]) (sc := defScope s_one_moved) (by decide +kernel)) (fun _ _ _ _ _ => (pg_name (i := 11) sc_one_moved.nd rfl (Or.inl rfl))) (fun _ _ _ _ _ => (pts_one (pt_cmpR (opNotIn K) (pv 11) (pv 5) (by rfl)))) (fun _ _ _ _ _ => (pv 11))) pe_int (fun _ _ => rfl)))
    (pss_cons (ps_set (i := 7) sc_one_moved.nd rfl (.inl rfl) (pe_op op_add (pe_ix ix_list (pe_ix ix_list (pv 2) (pv 4) (fun _ _ => rfl)) pe_int (fun _ _ => rfl)) pe_int))
    (pss_cons (ps_if (PW.pt (pw_or (pt_cmpR (op_neS hr.units) (pe_c G_moving hr (pa_cons (pv 4) (pa_cons (pv 6) pa_nil))) (pe_disp (pps_cons (pe_op op_mul pe_int (pv 4)) (pv 6) pps_nil) (by rfl) (by rfl) (fun z => by cases z) (by decide)) (nomark _)) (pw_or1 (pt_cmpR (op_neS hr.units) (pe_c G_changing hr (pa_cons (pv 4) (pa_cons (pv 7) pa_nil))) (pe_disp (pps_cons (pe_op op_add (pe_op op_mul pe_int (pv 4)) pe_int) (pv 7) pps_nil) (by rfl) (by rfl) (fun z => by cases z) (by decide)) (nomark _)))))
     (pss_one (ps_ret pe_bl))
     pss_nil)
    (pss_cons (ps_setLc (i := 8) (own := [("_law_row", 10)]) (g := gName 10) (tt := tYes) rfl sc_one_moved.nd rfl rfl (sw_true rfl rfl rfl (by decide +kernel)) (pi_list (pv 2)) (blkOk_by (own := [("_law_row", 10)]) (N := ["_law_box", "_law_rules", "_law_stand", "_law_standing", "_law_item", "_law_used", "_law_position", "_law_content", "_law_first", "_law_second", "_law_row", "_law_p"]) (sc := defScope s_one_moved) (by decide +kernel)) (fun _ _ _ _ _ => (pg_name (i := 10) sc_one_moved.nd rfl (Or.inl rfl))) (fun _ _ _ _ _ => pts_nil) (fun _ _ _ _ _ => (pe_callTy (callList K) (by rfl) B.list (by decide +kernel) (pa_cons (pv 10) pa_nil))))
    (pss_cons (ps_setLc (i := 9) (own := [("_law_row", 10)]) (g := gName 10) (tt := tYes) rfl sc_one_moved.nd rfl rfl (sw_true rfl rfl rfl (by decide +kernel)) (pi_list (pv 2)) (blkOk_by (own := [("_law_row", 10)]) (N := ["_law_box", "_law_rules", "_law_stand", "_law_standing", "_law_item", "_law_used", "_law_position", "_law_content", "_law_first", "_law_second", "_law_row", "_law_p"]) (sc := defScope s_one_moved) (by decide +kernel)) (fun _ _ _ _ _ => (pg_name (i := 10) sc_one_moved.nd rfl (Or.inl rfl))) (fun _ _ _ _ _ => pts_nil) (fun _ _ _ _ _ => (pe_callTy (callList K) (by rfl) B.list (by decide +kernel) (pa_cons (pv 10) pa_nil))))
    (pss_cons (ps_asg (pv 6) (pg_sub (pe_ix ix_list (pv 8) (pv 4) (fun _ _ => rfl)) pe_int set_list (fun _ => rfl)))
    (pss_cons (ps_asg (pv 7) (pg_sub (pe_ix ix_list (pv 9) (pv 4) (fun _ _ => rfl)) pe_int set_list (fun _ => rfl)))
    (pss_cons (ps_if (pt_cmpR op_ne (pe_ix ix_tup (pe_c G_by_places hr (pa_cons (pe_lst (pa_cons (pv 2) (pa_cons (pv 8) (pa_cons (pv 9) pa_nil)))) pa_nil)) pe_int (fun _ _ => rfl)) pe_str (nomark _))
     (pss_one (ps_ret pe_bl))
     pss_nil)
    (pss_one (ps_ret (pe_cG G_judged hg hr (pa_cons (pv 1) (pa_cons (pe_lst (pa_cons (pv 2) (pa_cons (pv 8) (pa_cons (pv 9) pa_nil)))) pa_nil)))))))))))))))), ?_⟩
  obtain ⟨xs, hx, hp, _⟩ := id hst
  have hxl : xs.length = rows.length := Paired.length hp
  have hrl : rows.length = n := hlw.g.len
  refine ⟨_, rfl, a, _, rfl, .inl (SqL.of hx), _, _, rfl, ⟨by decide, by decide, by omega, by omega⟩, fun D nD => ?_⟩
  have nDb : D ≠ b := fun e => by obtain ⟨m, c, k, z⟩ := hb; rw [e, z] at nD; cases nD
  rw [hxl, hrl, show ((n : Int) - 1).toNat = n - 1 from by omega]
  have rowAt : ∀ {i : Nat}, i < n → ∃ t, atI xs (i : Int) = some (.ref t) ∧ H t = some (.lst [.int (row rows i).1, .int (row rows i).2]) := fun {i} hi => st_row hp (by omega)
  refine lc_it walk_range (fun i H' => Ls H' D (stL rows i) ∧ Same H H') ⟨upd_same, same_upd nD⟩ (fun _ _ _ _ => True.intro) ?_ ?_
  · rintro i v H1 H2 hi ⟨hl, hs⟩ ⟨rfl, rfl⟩
    obtain ⟨t, e1, e2⟩ := rowAt (i := 1 + i) (by omega)
    refine ⟨rfl, ?_⟩
    refine ⟨_, rfl, _, rfl, a, _, _, _, rfl, rfl, SqL.of (hs _ _ hx), e1, t, _, _, _, rfl, rfl, SqL.of (hs _ _ e2), at2_0 _, _, _, rfl, rfl, _, rfl, ?_⟩
    refine ite2 (fun c => ?_) (fun c => ?_)
    · refine ⟨_, rfl, _, hl, szl (by have := stL_len rows i; rw [List.length_map]; omega), ?_, same_put hs nD⟩
      rw [stL_succ, if_pos (of_decide_eq_true c), Ls, upd_same, List.map_append]
      rfl
    · rw [stL_succ, if_neg (fun h => c (decide_eq_true h)), List.append_nil]
      exact ⟨hl, hs⟩
  rintro H1 ⟨hl, hs1⟩
  have sl := stL_len rows (n - 1)
  refine ⟨_, rfl, D, _, rfl, .inl hl.sq, rfl, _, rfl, ?_⟩
  refine ite2 (fun c => ?_) (fun c => ?_)
  · exact hQ H1 (SameBut.of hs1) (hb.same hs1)
  have spos : 0 < (stL rows (n - 1)).length := by
    rw [List.length_map] at c
    refine Nat.pos_of_ne_zero fun z => c ?_
    rw [z]
    rfl
  refine ⟨_, rfl, _, rfl, _, rfl, D, _, rfl, .inl hl.sq, b, _, rfl, hb.same hs1, by rw [List.length_map]; omega, by rw [List.length_map]; omega, fun d H2 d0 d1 b2 hb2 => ?_⟩
  rw [List.length_map] at d1
  have sb2 : SameBut b H H2 := (SameBut.of hs1).trans b2
  have hl2 : Ls H2 D (stL rows (n - 1)) := b2 _ _ nDb hl
  obtain ⟨j, rfl⟩ : ∃ j : Nat, d = (j : Int) := ⟨d.toNat, by omega⟩
  have hj : (stL rows (n - 1))[j]? = some (stL rows (n - 1))[j] := by simp [show j < (stL rows (n - 1)).length by omega]
  generalize (stL rows (n - 1))[j] = z at hj
  obtain ⟨i, rfl, i1, i2, ip⟩ := mem_stL (List.mem_of_getElem? hj)
  have i3 : i < n := by omega
  refine ⟨D, _, _, _, rfl, rfl, hl2.sq, atI_nat (v := V.int (i : Int)) (by rw [List.getElem?_map, hj]; rfl), ?_⟩
  have nab : a ≠ b := fun e => by
    obtain ⟨m, c, k, z⟩ := id hb
    rw [e, z] at hx
    have : xs = [.int m, .int c, .int k] := by cases hx; rfl
    subst this
    cases hp with
    | cons r _ => obtain ⟨t, q, _⟩ := r; cases q
  have keepA : ∀ {H' : Hp}, SameBut b H H' → H' a = some (.lst xs) := fun {H'} e => e _ _ nab hx
  have keepR : ∀ {H' : Hp}, SameBut b H H' → Paired (Row H') xs rows := fun {H'} e => paired_mono (fun _ _ r => r.but e hb) hp
  have rowB : ∀ {H' : Hp}, SameBut b H H' → ∃ t, atI xs (i : Int) = some (.ref t) ∧ H' t = some (.lst [.int (row rows i).1, .int (row rows i).2]) := fun {H'} e => st_row (keepR e) (by omega)
  -- the positions in use
  refine ⟨_, rfl, a, rfl, ⟨_, SqL.of (keepA sb2)⟩, fun U nU => ?_⟩
  refine lc_it (walk_list (xs := xs)) (fun i H' => Ls H' U ((rows.take i).map (·.1)) ∧ Same H2 H') ⟨upd_same, same_upd nU⟩ (fun i H' _ p => p.2.seq (SqL.of (keepA sb2))) ?_ ?_
  · rintro i x H' H'' hi ⟨h1, hs⟩ ⟨rfl, hk⟩
    obtain ⟨r, hr1, t, rfl, ht⟩ := paired_at (keepR sb2) hk
    refine ⟨rfl, yes_go (iteT ?_)⟩
    refine ⟨_, rfl, t, _, _, _, rfl, rfl, SqL.of (hs _ _ ht), at2_0 r, _, h1, szl (by rw [List.length_map, List.length_map, List.length_take]; omega), ?_, same_put hs nU⟩
    rw [take_snoc hr1, Ls, upd_same, List.map_append, List.map_append]
    rfl
  rintro H3 ⟨hu3, hs23⟩
  rw [hxl, List.take_length] at hu3
  have nUb : U ≠ b := fun e => by obtain ⟨m, c, k, z⟩ := hb2; rw [e, z] at nU; cases nU
  have sb3 := sb2.trans (SameBut.of hs23)
  have hb3 := hb2.same hs23
  -- a free one
  refine ⟨_, rfl, a, _, rfl, .inl (SqL.of (keepA sb3)), _, _, rfl, rfl, _, _, rfl, ⟨by decide, by decide, by omega, by omega⟩, fun W nW => ?_⟩
  rw [hxl, hrl, show ((n : Int) + 1 - 1).toNat = n from by omega]
  refine lc_it walk_range (fun i H' => Ls H' W ((upTo i).filter fun k => decide (k ∉ rows.map (·.1))) ∧ Same H3 H') ⟨upd_same, same_upd nW⟩ (fun _ _ _ _ => True.intro) ?_ ?_
  · rintro j v H' H'' hi ⟨hl, hs⟩ ⟨rfl, rfl⟩
    refine ⟨rfl, ?_⟩
    refine ⟨_, rfl, _, rfl, U, _, rfl, .inl (SqL.of (hs _ _ hu3)), rfl, all_flat _, _, rfl, ?_⟩
    show if (!inV (V.int (1 + (j : Int))) ((rows.map (·.1)).map V.int)) = true then _ else _
    rw [inV_int, upTo_succ, List.filter_append]
    have fl : ((upTo j).filter fun k => decide (k ∉ rows.map (·.1))).length ≤ j := by
      have := List.length_filter_le (fun k => decide (k ∉ rows.map (·.1))) (upTo j)
      rw [upTo_len] at this
      exact this
    refine ite2 (fun c => ?_) (fun c => ?_)
    · have c' : 1 + (j : Int) ∉ rows.map (·.1) := by simpa using c
      refine ⟨_, rfl, _, hl, szl (by rw [List.length_map]; omega), ?_, same_put hs nW⟩
      rw [Int.add_comm] at c'
      rw [Ls, upd_same, List.map_append, List.filter_cons, if_pos (decide_eq_true c'), Int.add_comm]
      rfl
    · have c' : 1 + (j : Int) ∈ rows.map (·.1) := by simpa using c
      rw [Int.add_comm] at c'
      rw [List.filter_cons, if_neg (fun h => (of_decide_eq_true h : ((j : Int) + 1) ∉ rows.map (·.1)) c'), List.filter_nil, List.append_nil]
      exact ⟨hl, hs⟩
  rintro H4 ⟨hl4, hs34⟩
  obtain ⟨p, pr, hpe⟩ : ∃ p pr, ((upTo n).filter fun k => decide (k ∉ rows.map (·.1))) = p :: pr := by
    obtain ⟨p, p1, p2⟩ := pos_free (l := rows.map (·.1)) (n := n) (by rw [List.length_map, hrl]) (by
      have := row_mem (rows := rows) (i := 0) (by omega)
      have e0 := hlw.g.zero
      rw [e0] at this
      exact List.mem_map_of_mem (f := (·.1)) this)
    have m : p ∈ (upTo n).filter fun k => decide (k ∉ rows.map (·.1)) := List.mem_filter.mpr ⟨p1, decide_eq_true p2⟩
    generalize ((upTo n).filter fun k => decide (k ∉ rows.map (·.1))) = l at m
    cases l with
    | nil => cases m
    | cons x r => exact ⟨x, r, rfl⟩
  have hp1 : p ∈ (upTo n).filter fun k => decide (k ∉ rows.map (·.1)) := by rw [hpe]; exact List.mem_cons_self
  obtain ⟨pm, pf⟩ := List.mem_filter.mp hp1
  have pf' : p ∉ rows.map (·.1) := of_decide_eq_true pf
  obtain ⟨pl, pu⟩ := mem_upTo pm
  rw [hpe] at hl4
  have sb4 := sb3.trans (SameBut.of hs34)
  have hb4 := hb3.same hs34
  refine ⟨W, _, _, _, rfl, rfl, SqL.of hl4, atI_nat (j := 0) rfl, ?_⟩
  -- the content
  obtain ⟨t4, e4, f4⟩ := rowB sb4
  refine ⟨_, rfl, _, rfl, a, _, _, _, rfl, rfl, SqL.of (keepA sb4), e4, t4, _, _, _, rfl, rfl, SqL.of f4, at2_1 _, _, _, rfl, rfl, ?_⟩
  -- moving, changing
  refine ⟨_, rfl, _, rfl, (i : Int), p, rfl, fun d1 H5 h45 nd1 hd1 => ?_⟩
  intro d2 nd2
  refine ⟨_, rfl, _, _, rfl, rfl, .inl ⟨by decide, by decide⟩, _, rfl, upd_same, [(.inl (2 * (i : Int)), .int p)], rfl, Nat.le_of_ble_eq_true rfl, ?_⟩
  have k1 : Same H5 (upd (upd H5 d2 (.dK [])) d2 (.dK [(Sum.inl (2 * (i : Int)), V.int p)])) := same_put (same_upd nd2) nd2
  refine DEq.ne (bk_eq (Bk.same k1 hd1) (show Bk _ d2 [(2 * (i : Int), p)] from upd_same) (by simp)) (by decide) ⟨false, rfl, iteF ?_⟩
  refine ⟨_, rfl, _, rfl, (i : Int), (row rows i).2 + 1, rfl, fun d3 H7 h67 nd3 hd3 => ?_⟩
  intro d4 nd4
  refine ⟨_, rfl, _, _, rfl, rfl, .inl ⟨by decide, by decide⟩, _, _, rfl, rfl, _, rfl, upd_same, [(.inl (2 * (i : Int) + 1), .int ((row rows i).2 + 1))], rfl, Nat.le_of_ble_eq_true rfl, ?_⟩
  have k2 : Same H7 (upd (upd H7 d4 (.dK [])) d4 (.dK (mergeK [] [(Sum.inl (2 * (i : Int) + 1), V.int ((row rows i).2 + 1))]))) := same_put (same_upd nd4) nd4
  refine DEq.ne (bk_eq (Bk.same k2 hd3) (show Bk _ d4 [(2 * (i : Int) + 1, (row rows i).2 + 1)] from upd_same) (by simp)) (by decide) ⟨false, rfl, iteF ?_⟩
  have h48 := ((h45.trans k1).trans h67).trans k2
  generalize upd (upd H7 d4 (.dK [])) d4 (.dK (mergeK [] [(Sum.inl (2 * (i : Int) + 1), V.int ((row rows i).2 + 1))])) = H8 at h48
  have sb8 := sb4.trans (SameBut.of h48)
  have hb8 := hb4.same h48
  clear hd1 hd3 k1 k2 h45 h67
  -- two copies
  refine ⟨_, rfl, a, rfl, ⟨_, SqL.of (keepA sb8)⟩, fun A8 nA8 => ?_⟩
  refine lc_it (walk_list (xs := xs)) (fun i H' => Cp H8 A8 rows i H' ∧ Same H8 H') ⟨⟨[], upd_same, .nil, .nil, fun y h => by cases h⟩, same_upd nA8⟩ (fun i H' _ p => p.2.seq (SqL.of (keepA sb8))) ?_ ?_
  · rintro i x H' H'' hi ⟨cp, hs⟩ ⟨rfl, hk⟩
    obtain ⟨r, hr1, t, rfl, ht⟩ := paired_at (keepR sb8) hk
    refine ⟨rfl, yes_go (iteT ?_)⟩
    refine ⟨_, rfl, t, _, rfl, .inl (SqL.of (hs _ _ ht)), fun q nq => ?_⟩
    obtain ⟨ys, hy, cp'⟩ := cp.step hs hr1 nq
    have s2 := same_upd (o := .lst [.int r.1, .int r.2]) nq
    refine ⟨ys, s2 _ _ hy, szl ?_, cp', same_put (hs.trans s2) nA8⟩
    obtain ⟨ys', hy', hp', _⟩ := cp
    rw [hy] at hy'
    cases hy'
    rw [Paired.length hp', List.length_take]
    omega
  rintro H9 ⟨cp8, h89⟩
  rw [hxl] at cp8
  obtain ⟨ys8, hy8, hp8, nd8, new8⟩ := cp8
  rw [List.take_length] at hp8
  have sb9 := sb8.trans (SameBut.of h89)
  have hb9 := hb8.same h89
  refine ⟨_, rfl, a, rfl, ⟨_, SqL.of (keepA sb9)⟩, fun A9 nA9 => ?_⟩
  refine lc_it (walk_list (xs := xs)) (fun i H' => Cp H9 A9 rows i H' ∧ Same H9 H') ⟨⟨[], upd_same, .nil, .nil, fun y h => by cases h⟩, same_upd nA9⟩ (fun i H' _ p => p.2.seq (SqL.of (keepA sb9))) ?_ ?_
  · rintro i x H' H'' hi ⟨cp, hs⟩ ⟨rfl, hk⟩
    obtain ⟨r, hr1, t, rfl, ht⟩ := paired_at (keepR sb9) hk
    refine ⟨rfl, yes_go (iteT ?_)⟩
    refine ⟨_, rfl, t, _, rfl, .inl (SqL.of (hs _ _ ht)), fun q nq => ?_⟩
    obtain ⟨ys, hy, cp'⟩ := cp.step hs hr1 nq
    have s2 := same_upd (o := .lst [.int r.1, .int r.2]) nq
    refine ⟨ys, s2 _ _ hy, szl ?_, cp', same_put (hs.trans s2) nA9⟩
    obtain ⟨ys', hy', hp', _⟩ := cp
    rw [hy] at hy'
    cases hy'
    rw [Paired.length hp', List.length_take]
    omega
  rintro H10 ⟨cp9, h910⟩
  rw [hxl] at cp9
  obtain ⟨ys9, hy9, hp9, nd9, new9⟩ := cp9
  rw [List.take_length] at hp9
  have sb10 := sb9.trans (SameBut.of h910)
  have hb10 := hb9.same h910
  have free : ∀ {H' : Hp} {q : Addr}, SameBut b H H' → Box H' b → H' q = none → H q = none := by
    intro H' q e hb' nq
    cases z : H q with
    | none => rfl
    | some o =>
      have hq : q ≠ b := fun e => by obtain ⟨m, c, k, zz⟩ := hb'; rw [e, zz] at nq; cases nq
      rw [e _ _ hq z] at nq
      cases nq
  have w8 : Wk b H A8 ys8 H10 rows := ⟨h910 _ _ hy8, paired_mono (fun _ _ r => r.same h910) hp8, nd8, fun y m => let ⟨t, e, z, _⟩ := new8 y m; ⟨t, e, free sb8 hb8 z⟩, sb10, hb10, free sb8 hb8 nA8⟩
  have w9 : Wk b H A9 ys9 H10 rows := ⟨hy9, hp9, nd9, fun y m => let ⟨t, e, z, _⟩ := new9 y m; ⟨t, e, free sb9 hb9 z⟩, sb10, hb10, free sb9 hb9 nA9⟩
  have out : ∀ {q : Addr}, H q = none → b ≠ q := fun {q} z e => by obtain ⟨m, c, k, zz⟩ := hb; rw [e, z] at zz; cases zz
  obtain ⟨t8, g8, f8⟩ := w8.at (i := i) (by omega)
  obtain ⟨_, e8, z8, y8⟩ := new8 _ (List.mem_of_getElem? g8)
  cases e8
  refine ⟨_, rfl, _, rfl, _, rfl, A8, _, _, _, rfl, rfl, SqL.of w8.lst, atI_nat g8, t8, _, _, 0, rfl, rfl, f8, rfl, ?_⟩
  have w8a := w8.set g8 (p, (row rows i).2)
  have w9a := w9.far (t := t8) (o := .lst [.int p, .int (row rows i).2]) (free sb8 hb8 z8) (fun e => y8 (e ▸ nA9)) (fun m => by obtain ⟨_, e, z, _⟩ := new9 _ m; cases e; exact y8 z) (out (free sb8 hb8 z8))
  obtain ⟨t9, g9, f9⟩ := w9a.at (i := i) (by omega)
  obtain ⟨_, e9, z9, y9⟩ := new9 _ (List.mem_of_getElem? g9)
  cases e9
  refine ⟨_, rfl, _, rfl, _, rfl, A9, _, _, _, rfl, rfl, SqL.of w9a.lst, atI_nat g9, t9, _, _, 1, rfl, rfl, f9, rfl, ?_⟩
  have w9b := w9a.set g9 ((row rows i).1, (row rows i).2 + 1)
  have w8b := w8a.far (t := t9) (o := .lst [.int (row rows i).1, .int ((row rows i).2 + 1)]) (free sb9 hb9 z9) (fun e => by rw [← e, hy8] at z9; cases z9) (fun m => by obtain ⟨_, e, _, z⟩ := new8 _ m; cases e; exact z z9) (out (free sb9 hb9 z9))
  have hst2 := St.but w8b.sb hb hst
  have hR2 := hR.but w8b.sb hb
  have st8 := w8b.st
  have st9 := w9b.st
  have sbE := w8b.sb
  have hbE := w8b.bx
  show tSeq _ _ _ _ (upd (upd H10 t8 (.lst [.int p, .int (row rows i).2])) t9 (.lst [.int (row rows i).1, .int ((row rows i).2 + 1)]))
  generalize upd (upd H10 t8 (.lst [.int p, .int (row rows i).2])) t9 (.lst [.int (row rows i).1, .int ((row rows i).2 + 1)]) = H12 at hst2 hR2 st8 st9 sbE hbE
  have cpos : 0 < (row rows i).2 := (hlw.both i).mp ip
  have clim := (hlw.g.bd i).2.2.2
  have plim := (hlw.g.bd i).2.1
  have O0 := hlw.ok hn0
  have fr : ∀ j, j ≠ i → (row rows j).1 ≠ p := fun j _ e => by
    by_cases hj : j < rows.length
    · exact pf' (e ▸ List.mem_map_of_mem (f := (·.1)) (row_mem hj))
    · have : row rows j = (0, 0) := by unfold row; rw [List.getElem?_eq_none (by omega)]; rfl
      rw [this] at e
      have e' : (0 : Int) = p := e
      omega
  have fr2 : ∀ j, j ≠ i → (row rows j).1 ≠ (row rows i).1 := fun j hj e => hj (hlw.inj i j ip e.symm).symm
  have O1 := O0.set i1 i3 (p := p) (c := (row rows i).2) (by omega) (by omega) cpos (by omega) fr
  have O2 := O0.set i1 i3 (p := (row rows i).1) (c := (row rows i).2 + 1) ip (by omega) (by omega) (by omega) fr2
  have O3 := O0.set i1 i3 (p := p) (c := (row rows i).2 + 1) (by omega) (by omega) (by omega) (by omega) fr
  refine ⟨_, rfl, _, rfl, _, rfl, szr, fun q nq => ?_⟩
  have sq := same_upd (o := .lst [V.ref a, V.ref A8, V.ref A9]) nq
  unfold tNil
  refine by_places_due (n := n) ⟨a, A8, A9, upd_same, hst2.same sq, st8.same sq, st9.same sq⟩ O0.lf.nn O1.lf.nn O2.lf.nn (by omega) fun v H13 hs13 due => ?_
  obtain ⟨t, rfl, ⟨_, _, d, h1, _⟩ | ⟨_, hb', _⟩ | ⟨_, _, _, hc', _⟩⟩ := due
  rotate_left
  · rw [mrg_moved O0.lf.nn i1 i3, O3.lf.brk] at hb'
    exact absurd rfl hb'
  · rw [clash_moved hrl i3] at hc'
    cases hc'
  refine ⟨t, _, _, _, rfl, rfl, SqT.of h1, atI_nat (j := 0) rfl, rfl, _, rfl, iteF ?_⟩
  have s13 := sq.trans hs13
  refine ⟨_, rfl, _, rfl, _, rfl, _, rfl, szr, fun q2 nq2 => ?_⟩
  have sq2 := s13.trans (same_upd (o := .lst [V.ref a, V.ref A8, V.ref A9]) nq2)
  exact ⟨x, q2, rows, _, _, n, rfl, hR2.same sq2, ⟨a, A8, A9, upd_same, hst2.same sq2, st8.same sq2, st9.same sq2⟩, O0, O1, O2, hn, fun H' hs' => hQ H' (sbE.trans (SameBut.of (sq2.trans hs'))) (hbE.same (sq2.trans hs'))⟩
end
end K80
end
section
set_option maxHeartbeats 8000000
namespace K80
open PySem PySem.Spec PyProof.Rows L2 Inf
theorem same_fresh {H0 H1 H : Hp} {d : Addr} {o : HO} (n : H0 d = none) (e : SameBut d (L2.upd H0 d o) H) : Same H0 H := fun b u q => e b u (ne_of_none q n) (by rw [upd_ne (ne_of_none q n)]; exact q)
theorem row_zero (n i : Nat) : row (List.replicate n ((0 : Int), (0 : Int))) i = (0, 0) := by
  unfold row
  rw [List.getElem?_replicate]
  split <;> rfl
theorem lw_zero {n : Nat} (hn : 0 < n) : Lw n (List.replicate n ((0 : Int), (0 : Int))) := by
  refine ⟨⟨List.length_replicate, row_zero n 0, fun i => ?_⟩, fun i j h => ?_, fun i => ?_⟩
  · rw [row_zero]; decide
  · rw [row_zero] at h; exact absurd h (by decide)
  · rw [row_zero]
theorem judged_due {CR CA CN : Addr} {K : PySem.W.Frag} {H : Hp} {x : V} {a : Addr} {r0 r1 r2 : Std} {n : Nat} {Q : VK} {E : XK} (hR : RbI CR CA CN H x (n - 1)) (ht : Th H a r0 r1 r2) (O0 : Ok n r0) (O1 : Ok n r1) (O2 : Ok n r2) (hn : n ≤ 16)
    (q : ∀ H', Same H H' → Q (.bl true) H') : sp_judged CR CA CN K ([x, .ref a] ++ []) H Q E := ⟨x, a, r0, r1, r2, n, rfl, hR, ht, O0, O1, O2, hn, q⟩
section
variable {P : Program} {w : World} {K : PySem.W.Frag} {mg : Str → Option Value} {base : Heap} {f : Addr} {fd : FuncData}
/-! ### law -/
def sp_law (K : PySem.W.Frag) : Sp := fun vs H Q _ => ∃ (a : Addr) (ns : List Int), vs = [.ref a] ∧ SqL K H a (ns.map V.int) ∧ ∀ H', Q (.bl true) H'
theorem ok_law {CR CA CN : Addr} (F : FnP K "law" "law" s_law f fd) (B : BT mg) (G_open : Has P w K mg base CX0 1 "_law_open" (sp_open K)) (G_take : Has P w K mg base CX0 1 "_law_take" sp_take) (G_sides : Has P w K mg base CX0 3 "_law_sides" (sp_sides K))
    (G_grown : Has P w K mg base CX0 3 "_law_grown" (sp_grown K)) (G_item_rules : Has P w K mg base CX0 5 "item_rules" (sp_item_rules CR CA CN)) (G_judged : HasG P w K mg base 9 "_law_judged" (sp_judged CR CA CN K)) (G_one_moved : HasG P w K mg base 10 "_law_one_moved" (sp_one_moved CR CA CN K)) :
    FnG P w K mg base 11 f fd ["_law_script"] (sp_law K) := by
  refine fnG_of F sc_law (fun vs H Q E h => ?_) (fun cdv A outer s H vs Q E hg hr h => ?_)
  · obtain ⟨_, _, rfl, _⟩ := h
    rfl
  obtain ⟨a, ns, rfl, hS, hQ⟩ := h
  refine ⟨_, pss_cons (ps_set (i := 1) sc_law.nd rfl (.inl rfl) (pe_c G_open hr (pa_cons (pv 0) (pa_cons pe_int pa_nil))))
    (pss_cons (ps_set (i := 2) sc_law.nd rfl (.inl rfl) (pe_op op_add pe_int (pe_c G_take hr (pa_cons (pv 1) (pa_cons pe_int pa_nil)))))
    (pss_cons (ps_set (i := 3) sc_law.nd rfl (.inl rfl) (pe_ix ix_list (pe_lst (pa_cons pe_int (pa_cons pe_int (pa_cons pe_int (pa_cons pe_int (pa_cons pe_int pa_nil)))))) (pe_c G_take hr (pa_cons (pv 1) (pa_cons pe_int pa_nil))) (fun _ _ => rfl)))
    (pss_cons (ps_set (i := 4) sc_law.nd rfl (.inl rfl) (pe_c G_take hr (pa_cons (pv 1) (pa_cons (pe_op op_add (pe_op op_mul pe_int (pv 2)) pe_int) pa_nil))))
    (C8.pss_cut (ps_if (pt_cmpR op_eq (pe_c G_take hr (pa_cons (pv 1) (pa_cons pe_int pa_nil))) pe_int (nomark _))
     (pss_cons (ps_set (i := 2) sc_law.nd rfl (.inl rfl) (pe_op op_add pe_int (pe_c G_take hr (pa_cons (pv 1) (pa_cons pe_int pa_nil)))))
     (pss_cons (ps_set (i := 3) sc_law.nd rfl (.inl rfl) (pe_ix ix_list (pe_lst (pa_cons pe_int (pa_cons pe_int (pa_cons pe_int (pa_cons pe_int pa_nil))))) (pe_c G_take hr (pa_cons (pv 1) (pa_cons pe_int pa_nil))) (fun _ _ => rfl)))
     (pss_one (ps_set (i := 4) sc_law.nd rfl (.inl rfl) (pe_op op_add (pv 2) (pe_c G_take hr (pa_cons (pv 1) (pa_cons pe_int pa_nil))))))))
     pss_nil)
    (pss_cons (ps_set (i := 5) sc_law.nd rfl (.inl rfl) (pe_c G_sides hr (pa_cons (pv 1) (pa_cons (pv 2) pa_nil))))
    (pss_cons (ps_set (i := 6) sc_law.nd rfl (.inl rfl) (pe_c G_open hr (pa_cons (pv 0) (pa_cons pe_int pa_nil))))
    (pss_cons (ps_setLc (i := 7) (own := [("_law_k", 13)]) (g := gName 13) (tt := tYes) rfl sc_law.nd rfl rfl (sw_true rfl rfl rfl (by decide +kernel)) (pi_range1 rfl B.range (pa_cons (pe_op op_add (pv 2) pe_int) pa_nil)) (blkOk_by (own := [("_law_k", 13)]) (N := ["_law_script", "_law_box", "_law_count", "_law_top", "_law_steps", "_law_items", "_law_deeds", "_law_empty", "_law_base", "_law_sides_here", "_law_first", "_law_second", "_law_rules", "_law_k"]) (sc := defScope s_law) (by decide +kernel)) (fun _ _ _ _ _ => (pg_name (i := 13) sc_law.nd rfl (Or.inl rfl))) (fun _ _ _ _ _ => pts_nil) (fun _ _ _ _ _ => (pe_lst (pa_cons pe_int (pa_cons pe_int pa_nil)))))
    (pss_cons (ps_set (i := 8) sc_law.nd rfl (.inl rfl) (pe_c G_grown hr (pa_cons (pv 6) (pa_cons (pv 7) (pa_cons (pe_lc (own := [("_law_k", 13)]) (g := gName 13) (tt := tYes) rfl sc_law.nd (pi_range1 rfl B.range (pa_cons (pv 2) pa_nil)) (blkOk_by (own := [("_law_k", 13)]) (N := ["_law_script", "_law_box", "_law_count", "_law_top", "_law_steps", "_law_items", "_law_deeds", "_law_empty", "_law_base", "_law_sides_here", "_law_first", "_law_second", "_law_rules", "_law_k"]) (sc := defScope s_law) (by decide +kernel)) (fun _ _ _ _ _ => (pg_name (i := 13) sc_law.nd rfl (Or.inl rfl))) (fun _ _ _ _ _ => pts_nil) (fun _ _ _ _ _ => (pe_op op_add (pv 13) pe_int))) (pa_cons (pv 3) (pa_cons (pv 4) pa_nil)))))))
    (pss_cons (ps_set (i := 9) sc_law.nd rfl (.inl rfl) (pe_c G_open hr (pa_cons (pv 0) (pa_cons pe_int pa_nil))))
    (pss_cons (ps_set (i := 10) sc_law.nd rfl (.inl rfl) (pe_c G_grown hr (pa_cons (pv 9) (pa_cons (pv 8) (pa_cons (pe_ix ix_list (pv 5) pe_int (fun _ _ => rfl)) (pa_cons (pv 3) (pa_cons (pe_op op_add pe_int (pe_c G_take hr (pa_cons (pv 9) (pa_cons pe_int pa_nil)))) pa_nil)))))))
    (pss_cons (ps_set (i := 11) sc_law.nd rfl (.inl rfl) (pe_c G_grown hr (pa_cons (pv 9) (pa_cons (pv 8) (pa_cons (pe_ix ix_list (pv 5) pe_int (fun _ _ => rfl)) (pa_cons (pv 3) (pa_cons (pe_op op_add pe_int (pe_c G_take hr (pa_cons (pv 9) (pa_cons pe_int pa_nil)))) pa_nil)))))))
    (pss_cons (ps_set (i := 12) sc_law.nd rfl (.inl rfl) (pe_c G_item_rules hr (pa_cons (pv 2) pa_nil)))
    (pss_cons (ps_if (PW.pt (pw_or (pt_not (pt_val (pe_cG G_judged hg hr (pa_cons (pv 12) (pa_cons (pe_lst (pa_cons (pv 8) (pa_cons (pv 10) (pa_cons (pv 11) pa_nil)))) pa_nil))))) (pw_or1 (pt_not (pt_val (pe_cG G_judged hg hr (pa_cons (pv 12) (pa_cons (pe_lst (pa_cons (pv 8) (pa_cons (pv 11) (pa_cons (pv 10) pa_nil)))) pa_nil))))))))
     (pss_one (ps_ret pe_bl))
     pss_nil)
    (pss_cons (ps_if (PW.pt (pw_or (pt_not (pt_val (pe_cG G_judged hg hr (pa_cons (pv 12) (pa_cons (pe_lst (pa_cons (pv 7) (pa_cons (pv 10) (pa_cons (pv 11) pa_nil)))) pa_nil))))) (pw_or1 (pt_not (pt_val (pe_cG G_judged hg hr (pa_cons (pv 12) (pa_cons (pe_lst (pa_cons (pv 8) (pa_cons (pv 10) (pa_cons (pv 7) pa_nil)))) pa_nil))))))))
     (pss_one (ps_ret pe_bl))
     pss_nil)
    (pss_one (ps_ret (pe_and (pe_cG G_one_moved hg hr (pa_cons (pe_c G_open hr (pa_cons (pv 0) (pa_cons pe_int pa_nil))) (pa_cons (pv 12) (pa_cons (pv 8) pa_nil)))) (pe_one (pe_cG G_judged hg hr (pa_cons (pv 12) (pa_cons (pe_lst (pa_cons (pv 8) (pa_cons (pv 10) (pa_cons (pv 11) pa_nil)))) pa_nil))))))))))))))))))))), ?_⟩
  refine ⟨_, rfl, a, ns, 0, rfl, hS, fun b m c nb => ?_⟩
  have hb0 : Box (upd H b (.lst [V.int m, V.int c, V.int 0])) b := ⟨m, c, 0, upd_same⟩
  generalize hH1 : upd H b (.lst [V.int m, V.int c, V.int 0]) = H1 at hb0
  have s1 : ∀ {H' : Hp}, SameBut b H1 H' → Same H H' := fun {H'} e => same_fresh (H1 := H) nb (hH1 ▸ e)
  have nab : a ≠ b ∨ True := .inr trivial
  -- count
  refine ⟨_, rfl, b, _, rfl, hb0, by decide, by decide, fun d2 H2 d20 d21 b2 hb2 => ⟨_, _, rfl, rfl, ?_⟩⟩
  -- top
  refine ⟨szr, fun p3 np3 => ?_⟩
  have s3 := same_upd (o := .lst [V.int 2, V.int 3, V.int 5, V.int 7, V.int 9999]) np3
  have np3b : p3 ≠ b := fun e => by obtain ⟨m, c, k, z⟩ := hb2; rw [e, z] at np3; cases np3
  refine ⟨_, rfl, b, _, rfl, hb2.same s3, by decide, by decide, fun d4 H4 d40 d41 b4 hb4 => ?_⟩
  have l4 := b4 _ _ np3b upd_same
  obtain ⟨top, t1, t2, tat⟩ : ∃ t : Int, 1 ≤ t ∧ t ≤ 9999 ∧ atI [V.int 2, V.int 3, V.int 5, V.int 7, V.int 9999] d4 = some (.int t) := by
    obtain ⟨j, rfl⟩ : ∃ j : Nat, d4 = (j : Int) := ⟨d4.toNat, by omega⟩
    have hj : j < 5 := by omega
    match j, hj with
    | 0, _ => exact ⟨2, by decide, by decide, atI_nat (j := 0) rfl⟩
    | 1, _ => exact ⟨3, by decide, by decide, atI_nat (j := 1) rfl⟩
    | 2, _ => exact ⟨5, by decide, by decide, atI_nat (j := 2) rfl⟩
    | 3, _ => exact ⟨7, by decide, by decide, atI_nat (j := 3) rfl⟩
    | 4, _ => exact ⟨9999, by decide, by decide, atI_nat (j := 4) rfl⟩
  refine ⟨p3, _, _, _, rfl, rfl, SqL.of l4, tat, ?_⟩
  have sb4 := (b2.trans (SameBut.of s3)).trans b4
  clear l4 s3 np3 np3b tat
  -- steps
  refine ⟨_, rfl, _, rfl, _, _, rfl, rfl, .inl ⟨by decide, by decide⟩, _, _, rfl, rfl, b, _, rfl, hb4, by omega, by omega, fun d5 H5 d50 d51 b5 hb5 => ?_⟩
  have sb5 := sb4.trans b5
  refine ⟨fun σ' H' => ∃ (n : Nat) (t : Int) (m : Nat), σ' = [some (.ref a), some (.ref b), some (.int n), some (.int t), some (.int m), none, none, none, none, none, none, none, none, none] ∧ 1 ≤ n ∧ n ≤ 15 ∧ 1 ≤ t ∧ t ≤ 9999 ∧ m ≤ 1000 ∧ SameBut b H1 H' ∧ Box H' b, ?_, ?_⟩
  · refine ⟨_, rfl, b, _, rfl, hb5, by decide, by decide, fun d6 H6 d60 d61 b6 hb6 => ?_⟩
    have sb6 := sb5.trans b6
    refine ⟨rfl, _, rfl, ?_⟩
    refine ite2 (fun _ => ?_) (fun _ => ?_)
    · refine ⟨_, rfl, b, _, rfl, hb6, by decide, by decide, fun d7 H7 d70 d71 b7 hb7 => ⟨_, _, rfl, rfl, ?_⟩⟩
      have sb7 := sb6.trans b7
      refine ⟨szr, fun p8 np8 => ?_⟩
      have s8 := same_upd (o := .lst [V.int 9, V.int 15, V.int 20, V.int 9999]) np8
      have np8b : p8 ≠ b := fun e => by obtain ⟨m, c, k, z⟩ := hb7; rw [e, z] at np8; cases np8
      refine ⟨_, rfl, b, _, rfl, hb7.same s8, by decide, by decide, fun d9 H9 d90 d91 b9 hb9 => ?_⟩
      have l9 := b9 _ _ np8b upd_same
      obtain ⟨top', t1', t2', tat⟩ : ∃ t : Int, 1 ≤ t ∧ t ≤ 9999 ∧ atI [V.int 9, V.int 15, V.int 20, V.int 9999] d9 = some (.int t) := by
        obtain ⟨j, rfl⟩ : ∃ j : Nat, d9 = (j : Int) := ⟨d9.toNat, by omega⟩
        have hj : j < 4 := by omega
        match j, hj with
        | 0, _ => exact ⟨9, by decide, by decide, atI_nat (j := 0) rfl⟩
        | 1, _ => exact ⟨15, by decide, by decide, atI_nat (j := 1) rfl⟩
        | 2, _ => exact ⟨20, by decide, by decide, atI_nat (j := 2) rfl⟩
        | 3, _ => exact ⟨9999, by decide, by decide, atI_nat (j := 3) rfl⟩
      refine ⟨p8, _, _, _, rfl, rfl, SqL.of l9, tat, ?_⟩
      have sb9 := (sb7.trans (SameBut.of s8)).trans b9
      refine ⟨_, rfl, _, rfl, b, _, rfl, hb9, by decide, by decide, fun d10 H10 d100 d101 b10 hb10 => ⟨_, _, rfl, rfl, ?_⟩⟩
      obtain ⟨j, rfl⟩ : ∃ j : Nat, d7 = (j : Int) := ⟨d7.toNat, by omega⟩
      obtain ⟨k, rfl⟩ : ∃ k : Nat, d10 = (k : Int) := ⟨d10.toNat, by omega⟩
      exact ⟨5 + j, top', 5 + j + k, by simp; rfl, by omega, by omega, t1', t2', by omega, sb9.trans b10, hb10⟩
    · obtain ⟨j, rfl⟩ : ∃ j : Nat, d2 = (j : Int) := ⟨d2.toNat, by omega⟩
      obtain ⟨k, rfl⟩ : ∃ k : Nat, d5 = (k : Int) := ⟨d5.toNat, by omega⟩
      exact ⟨1 + j, top, k, by simp; rfl, by omega, by omega, t1, t2, by omega, sb6, hb6⟩
  clear d20 d21 d40 d41 d50 d51 b2 b4 b5 hb2 hb4 hb5 sb4 sb5 t1 t2
  rintro σ' H6 ⟨n, t, m', rfl, n1, n2, t1, t2, hm, sb6, hb6⟩
  -- sides
  refine ⟨_, rfl, _, rfl, b, n, rfl, hb6, n1, by omega, fun ip ix iy H7 b7 hb7 hI hIx hIy => ?_⟩
  have s7 := s1 (sb6.trans b7)
  -- the deeds
  refine ⟨_, rfl, a, ns, 1, rfl, s7.seq hS, fun e m8 c8 ne => ?_⟩
  have he8 : Box (upd H7 e (.lst [V.int m8, V.int c8, V.int 0])) e := ⟨m8, c8, 0, upd_same⟩
  generalize hH8 : upd H7 e (.lst [V.int m8, V.int c8, V.int 0]) = H8 at he8
  have s8 : ∀ {H' : Hp}, SameBut e H8 H' → Same H7 H' := fun {H'} x => same_fresh (H1 := H7) ne (hH8 ▸ x)
  -- nothing stands
  refine ⟨_, rfl, _, _, rfl, rfl, _, rfl, by omega, by omega, fun D nD => ?_⟩
  rw [show ((n : Int) + 1).toNat = n + 1 from by omega]
  have nDe : D ≠ e := fun z => by obtain ⟨m, c, k, y⟩ := he8; rw [z, y] at nD; cases nD
  refine lc_it walk_range (fun i H' => Cp H8 D (List.replicate (n + 1) (0, 0)) i H' ∧ Same H8 H') ⟨⟨[], upd_same, .nil, .nil, fun y h => by cases h⟩, same_upd nD⟩ (fun _ _ _ _ => True.intro) ?_ ?_
  · rintro i v H' H'' hi ⟨cp, hs⟩ ⟨rfl, rfl⟩
    refine ⟨rfl, yes_go (iteT ?_)⟩
    refine ⟨szr, fun q nq => ?_⟩
    obtain ⟨ys, hy, cp'⟩ := cp.step (r := (0, 0)) hs (by rw [List.getElem?_replicate, if_pos hi]) nq
    have s2 := same_upd (o := .lst [.int 0, .int 0]) nq
    refine ⟨ys, s2 _ _ hy, szl ?_, cp', same_put (hs.trans s2) nD⟩
    obtain ⟨ys', hy', hp', _⟩ := cp
    rw [hy] at hy'
    cases hy'
    rw [Paired.length hp', List.length_take]
    omega
  rintro H9 ⟨⟨ysE, hyE, hpE, ndE, _⟩, hs89⟩
  rw [List.take_of_length_le (by simp)] at hpE
  have stE : St H9 D (List.replicate (n + 1) (0, 0)) := ⟨ysE, hyE, hpE, ndE⟩
  have he9 := he8.same hs89
  have sb9 : SameBut e H8 H9 := SameBut.of hs89
  -- the base
  refine ⟨_, rfl, _, rfl, _, rfl, _, rfl, by omega, by omega, fun I nI => ?_⟩
  rw [show ((n : Int)).toNat = n from by omega]
  have nIe : I ≠ e := fun z => by obtain ⟨m, c, k, y⟩ := he9; rw [z, y] at nI; cases nI
  refine lc_it walk_range (fun i H' => Ls H' I (upTo i) ∧ Same H9 H') ⟨upd_same, same_upd nI⟩ (fun _ _ _ _ => True.intro) ?_ ?_
  · rintro i x H' H'' hi ⟨hl, hs⟩ ⟨rfl, rfl⟩
    refine ⟨rfl, yes_go (iteT ?_)⟩
    refine ⟨_, rfl, _, _, rfl, rfl, _, hl, szl (by rw [List.length_map, upTo_len]; omega), ?_, same_put hs nI⟩
    rw [Ls, upd_same, upTo_succ, List.map_append, Int.add_comm 0]
    rfl
  rintro H10 ⟨hlI, hs910⟩
  have sb10 := sb9.trans (SameBut.of hs910)
  have neI : upTo n ≠ [] := fun z => by have := upTo_len n; rw [z] at this; simp at this; omega
  refine ⟨_, rfl, _, rfl, e, D, I, _, upTo n, n + 1, m', t, rfl, by omega, he9.same hs910, stE.same hs910, lw_zero (by omega), by omega, hlI, nIe, neI, by rw [upTo_len]; omega, fun k hk => by have := mem_upTo hk; omega, t1, t2, fun bs H11 r0 b11 he11 st0 lw0 => ?_⟩
  have sb11 := sb10.trans b11
  have s11 := s8 sb11
  have stE11 := St.but b11 (he9.same hs910) (stE.same hs910)
  obtain ⟨xs, hxs, xsne, xsl, xsm, _⟩ := hIx
  obtain ⟨ys, hys, ysne, ysl, ysm, _⟩ := hIy
  -- the sides
  refine ⟨_, rfl, a, ns, 2, rfl, (s7.trans s11).seq hS, fun g m12 c12 ng => ?_⟩
  have hg12 : Box (upd H11 g (.lst [V.int m12, V.int c12, V.int 0])) g := ⟨m12, c12, 0, upd_same⟩
  generalize hH12 : upd H11 g (.lst [V.int m12, V.int c12, V.int 0]) = H12 at hg12
  have s12 : ∀ {H' : Hp}, SameBut g H12 H' → Same H11 H' := fun {H'} x => same_fresh (H1 := H11) ng (hH12 ▸ x)
  have keep7 : ∀ {H' : Hp}, SameBut g H12 H' → Same H7 H' := fun {H'} x => s11.trans (s12 x)
  have ne_g : ∀ {q : Addr} {l : List Int}, Ls H7 q l → q ≠ g := fun {q l} h z => by have := s11 _ _ h; rw [z, ng] at this; cases this
  have sg12 : SameBut g H12 H12 := SameBut.refl _ _
  refine ⟨_, rfl, _, rfl, _, rfl, ip, _, _, _, rfl, rfl, SqL.of (keep7 sg12 _ _ hI), atI_nat (j := 0) rfl, _, rfl, _, rfl, g, _, rfl, hg12, by decide, by decide, fun d13 H13 d130 d131 b13 hg13 => ⟨_, _, rfl, rfl, ?_⟩⟩
  have sg13 := sg12.trans b13
  obtain ⟨j13, rfl⟩ : ∃ j : Nat, d13 = (j : Int) := ⟨d13.toNat, by omega⟩
  refine ⟨g, bs, ix, r0, xs, n + 1, 1 + j13, t, rfl, by omega, hg13, (st0.same (s12 sg13)), lw0, by omega, keep7 sg13 _ _ hxs, ne_g hxs, xsne, xsl, fun k hk => by have := xsm k hk; omega, t1, t2, fun fs H14 r1 b14 hg14 st1 lw1 => ?_⟩
  have sg14 := sg13.trans b14
  refine ⟨_, rfl, _, rfl, _, rfl, ip, _, _, _, rfl, rfl, SqL.of (keep7 sg14 _ _ hI), atI_nat (j := 1) rfl, _, rfl, _, rfl, g, _, rfl, hg14, by decide, by decide, fun d15 H15 d150 d151 b15 hg15 => ⟨_, _, rfl, rfl, ?_⟩⟩
  have sg15 := sg14.trans b15
  obtain ⟨j15, rfl⟩ : ∃ j : Nat, d15 = (j : Int) := ⟨d15.toNat, by omega⟩
  refine ⟨g, bs, iy, r0, ys, n + 1, 1 + j15, t, rfl, by omega, hg15, (st0.same (s12 sg15)), lw0, by omega, keep7 sg15 _ _ hys, ne_g hys, ysne, ysl, fun k hk => by have := ysm k hk; omega, t1, t2, fun gs H16 r2 b16 hg16 st2 lw2 => ?_⟩
  have sg16 := sg15.trans b16
  have st1 := St.but (b15.trans b16) hg14 st1
  have s16 := s12 sg16
  have stE := stE11.same s16
  have st0 := st0.same s16
  have O0 := lw0.ok (Nat.succ_pos n)
  have O1 := lw1.ok (Nat.succ_pos n)
  have O2 := lw2.ok (Nat.succ_pos n)
  have OE := (lw_zero (n := n + 1) (Nat.succ_pos n)).ok (Nat.succ_pos n)
  -- the rules
  refine ⟨_, rfl, n, rfl, by omega, fun x H17 hs17 hR => ?_⟩
  have hS17 := (((s7.trans s11).trans s16).trans hs17).seq hS
  replace stE := stE.same hs17
  replace st0 := st0.same hs17
  replace st1 := st1.same hs17
  replace st2 := st2.same hs17
  clear hs17 s16 sg16 sg15 sg14 sg13 b16 b15 b14 b13 hH12 hH8 hH1
  refine ⟨_, rfl, _, rfl, _, rfl, _, rfl, szr, fun q1 nq1 => ?_⟩
  have k1 := same_upd (o := .lst [V.ref bs, V.ref fs, V.ref gs]) nq1
  unfold tNil
  refine judged_due (n := n + 1) (hR.same k1) ⟨_, _, _, upd_same, st0.same k1, st1.same k1, st2.same k1⟩ O0 O1 O2 (by omega) fun H18 hs18 => ⟨true, rfl, iteF ?_⟩
  have e1 := k1.trans hs18
  refine ⟨_, rfl, _, rfl, _, rfl, _, rfl, szr, fun q2 nq2 => ?_⟩
  have k2 := e1.trans (same_upd (o := .lst [V.ref bs, V.ref gs, V.ref fs]) nq2)
  refine judged_due (n := n + 1) (hR.same k2) ⟨_, _, _, upd_same, st0.same k2, st2.same k2, st1.same k2⟩ O0 O2 O1 (by omega) fun H19 hs19 => ⟨true, rfl, iteF ?_⟩
  have e2 := k2.trans hs19
  refine ⟨_, rfl, _, rfl, _, rfl, _, rfl, szr, fun q3 nq3 => ?_⟩
  have k3 := e2.trans (same_upd (o := .lst [V.ref D, V.ref fs, V.ref gs]) nq3)
  refine judged_due (n := n + 1) (hR.same k3) ⟨_, _, _, upd_same, stE.same k3, st1.same k3, st2.same k3⟩ OE O1 O2 (by omega) fun H20 hs20 => ⟨true, rfl, iteF ?_⟩
  have e3 := k3.trans hs20
  refine ⟨_, rfl, _, rfl, _, rfl, _, rfl, szr, fun q4 nq4 => ?_⟩
  have k4 := e3.trans (same_upd (o := .lst [V.ref bs, V.ref fs, V.ref D]) nq4)
  refine judged_due (n := n + 1) (hR.same k4) ⟨_, _, _, upd_same, st0.same k4, st1.same k4, stE.same k4⟩ O0 O1 OE (by omega) fun H21 hs21 => ⟨true, rfl, iteF ?_⟩
  have e4 := k4.trans hs21
  -- one moved
  refine ⟨_, rfl, a, ns, 3, rfl, e4.seq hS17, fun o m22 c22 no => ?_⟩
  have ho : Box (upd H21 o (.lst [V.int m22, V.int c22, V.int 0])) o := ⟨m22, c22, 0, upd_same⟩
  have k5 := e4.trans (same_upd (o := .lst [V.int m22, V.int c22, V.int 0]) no)
  refine ⟨_, rfl, _, rfl, o, bs, x, r0, n + 1, rfl, ho, hR.same k5, st0.same k5, lw0, by omega, by omega, fun H23 sb23 _ => ?_⟩
  have e5 := e4.trans (same_fresh (H1 := H21) no sb23)
  refine ⟨true, rfl, iteT ?_⟩
  refine ⟨_, rfl, _, rfl, _, rfl, _, rfl, szr, fun q6 nq6 => ?_⟩
  have k6 := e5.trans (same_upd (o := .lst [V.ref bs, V.ref fs, V.ref gs]) nq6)
  exact judged_due (n := n + 1) (hR.same k6) ⟨_, _, _, upd_same, st0.same k6, st1.same k6, st2.same k6⟩ O0 O1 O2 (by omega) fun H24 _ => hQ H24
end
end K80
end
section
set_option maxHeartbeats 0
namespace K80
open PySem PySem.Spec PyProof.Rows L2 Inf
def d_PositionClash_init : He.DefD := ⟨("PositionClash", some "__init__"), "__init__", "PositionClash.__init__", defArgs s_PositionClash_init, defBody s_PositionClash_init, defScope s_PositionClash_init, [], []⟩
def d_PlaceClash_init : He.DefD := ⟨("PlaceClash", some "__init__"), "__init__", "PlaceClash.__init__", defArgs s_PlaceClash_init, defBody s_PlaceClash_init, defScope s_PlaceClash_init, [], []⟩
def d_RuleClash_init : He.DefD := ⟨("RuleClash", some "__init__"), "__init__", "RuleClash.__init__", defArgs s_RuleClash_init, defBody s_RuleClash_init, defScope s_RuleClash_init, [], []⟩
def fa0 : List He.Fa := [.free "len", .free "int", .free "list", .free "range", .free "sorted", .free "set", .free "tuple", .free "min", .free "enumerate", .free "isinstance", .free "repr", .free "super"]
def fa1 : List He.Fa := [.free "dict", .free "bool", .free "iter", .glo "ascending", .glo "bar_of", .glo "bars_in_order", .glo "first_repeated", .glo "merge_positions", .glo "doubled", .glo "value_at", .glo "distinct", .glo "filled_marks"]
def fa2 : List He.Fa := [.glo "first_of", .glo "position_place", .glo "content_place", .glo "item_rules", .glo "arrange", .glo "moving", .glo "changing", .glo "merged_value", .glo "value_merge", .glo "require_lawful", .glo "merge_two", .glo "_law_open"]
def fa3 : List He.Fa := [.glo "_law_take", .glo "_law_choose", .glo "_law_is_book", .glo "_law_ints", .glo "_law_book_of", .glo "_law_broken", .glo "_law_is_arrangement", .glo "_law_sides", .glo "_law_later", .glo "_law_grown", .glo "_law_arranged", .glo "_law_by_positions"]
def fa4 : List He.Fa := [.glo "_law_first_bar", .glo "_law_by_places", .glo "_law_positions_told", .glo "_law_places_told", .glo "_law_twice", .glo "_law_nothing_lost", .glo "_law_judged", .glo "_law_one_moved", .glo "law", .glo "Apart", .glo "Needs", .glo "RuleBook"]
def fa5 : List He.Fa := [.glo "PlaceClash", .glo "RuleClash", .glo "PositionClash", .glo "ClashError", .cls "Apart", .cls "Needs", .cls "RuleBook", .noat "Apart" "places", .noat "Apart" "width", .noat "Needs" "_pairs", .noat "Needs" "places", .noat "Needs" "width"]
def fa6 : List He.Fa := [.noat "RuleBook" "_rows", .noat "PlaceClash" "place", .noat "PlaceClash" "found", .noat "RuleClash" "key", .noat "RuleClash" "bar", .noat "PositionClash" "position", .meth "Apart" "bars_in", .meth "Apart" "reason", .meth "Needs" "bars_in", .meth "Needs" "reason", .meth "RuleBook" "reason", .mkr "Apart"]
def fa7 : List He.Fa := [.mkr "Needs", .mkr "RuleBook", .exm "PositionClash" "PositionClash" true, .exm "PlaceClash" "PlaceClash" true, .exm "RuleClash" "RuleClash" true, .exm "RuleClash" "PlaceClash" false]
def fa : List He.Fa := fa0 ++ (fa1 ++ (fa2 ++ (fa3 ++ (fa4 ++ (fa5 ++ (fa6 ++ (fa7)))))))
def fx0 : List (PySem.W.Frag → Bool) := [fun K => supB "/claim/cut.py" K "PositionClash" "__init__" "PositionClash.__init__", fun K => supB "/claim/cut.py" K "PlaceClash" "__init__" "PlaceClash.__init__", fun K => supB "/claim/cut.py" K "RuleClash" "__init__" "RuleClash.__init__", fun K => errB K (He.ga K "PositionClash"), fun K => errB K (He.ga K "PlaceClash"), fun K => errB K (He.ga K "RuleClash"), fun K => decide (PySem.W.kitOne K (.ref (He.ga K "PositionClash")) (.ref (He.ga K "ClashError")) = some true), fun K => decide (PySem.W.kitOne K (.ref (He.ga K "PlaceClash")) (.ref (He.ga K "ClashError")) = some true), fun K => decide (PySem.W.kitOne K (.ref (He.ga K "RuleClash")) (.ref (He.ga K "ClashError")) = some true)]
def fx : List (PySem.W.Frag → Bool) := fx0
def fs : List He.DefD := [d_PositionClash_init, d_PlaceClash_init, d_RuleClash_init]
abbrev RR : PySem.W.OpenRow := PySem.W.OpenLaw.row PySem.Challenge.rw_forkedshelves_k80_items_by_two_roads
abbrev hk : PySem.W.Hook := hookS 4 fx fa fn fs
def ob (s : PySem.W.SharedT) : AlS := obsSG 4 fx fa fn fs (HandSHeadRun.getT s)
theorem ob_eq (s : PySem.W.SharedT) : ob s = hk.obs s.abs := obsSG_eq (HandSHeadRun.getT_eq s)
theorem run (w : World) : HandSHeadRun.RunEq RR (PySem.W.view RR.prog [64]) hk ob 6000 loose w := by
  intro os
  kernel_rfl
end K80
end
section
set_option maxHeartbeats 4000000
namespace K80
open PySem PySem.Spec PyProof.Rows L2 Inf
theorem facts {w : World} {K : PySem.W.Frag} {h : Heap} {mg : Str → Option Value} {f : Addr} (X : K.In h) (G : h.Ns mainGlobals mg) (hfa : mg ("law" : Str) = some (.ref f)) (c : SaysS fx fa fn fs K) :
    ∃ fd : FuncData, (∀ (s : Shared) (v : Value), BindsTo s fd ⟨[v], []⟩ [("_law_script", v)]) ∧ ∀ base : Heap, K.In base → base.Ns mainGlobals mg → FnG (PySem.Challenge.rw_forkedshelves_k80_items_by_two_roads).prog w K mg base 11 f fd ["_law_script"] (sp_law K) := by
  have gl15 := He.glo_ok X G (c.fact 15 (f := .glo "ascending") rfl)
  have gl16 := He.glo_ok X G (c.fact 16 (f := .glo "bar_of") rfl)
  have gl17 := He.glo_ok X G (c.fact 17 (f := .glo "bars_in_order") rfl)
  have gl18 := He.glo_ok X G (c.fact 18 (f := .glo "first_repeated") rfl)
  have gl19 := He.glo_ok X G (c.fact 19 (f := .glo "merge_positions") rfl)
  have gl20 := He.glo_ok X G (c.fact 20 (f := .glo "doubled") rfl)
  have gl21 := He.glo_ok X G (c.fact 21 (f := .glo "value_at") rfl)
  have gl22 := He.glo_ok X G (c.fact 22 (f := .glo "distinct") rfl)
  have gl23 := He.glo_ok X G (c.fact 23 (f := .glo "filled_marks") rfl)
  have gl24 := He.glo_ok X G (c.fact 24 (f := .glo "first_of") rfl)
  have gl25 := He.glo_ok X G (c.fact 25 (f := .glo "position_place") rfl)
  have gl26 := He.glo_ok X G (c.fact 26 (f := .glo "content_place") rfl)
  have gl27 := He.glo_ok X G (c.fact 27 (f := .glo "item_rules") rfl)
  have gl28 := He.glo_ok X G (c.fact 28 (f := .glo "arrange") rfl)
  have gl29 := He.glo_ok X G (c.fact 29 (f := .glo "moving") rfl)
  have gl30 := He.glo_ok X G (c.fact 30 (f := .glo "changing") rfl)
  have gl31 := He.glo_ok X G (c.fact 31 (f := .glo "merged_value") rfl)
  have gl32 := He.glo_ok X G (c.fact 32 (f := .glo "value_merge") rfl)
  have gl33 := He.glo_ok X G (c.fact 33 (f := .glo "require_lawful") rfl)
  have gl34 := He.glo_ok X G (c.fact 34 (f := .glo "merge_two") rfl)
  have gl35 := He.glo_ok X G (c.fact 35 (f := .glo "_law_open") rfl)
  have gl36 := He.glo_ok X G (c.fact 36 (f := .glo "_law_take") rfl)
  have gl37 := He.glo_ok X G (c.fact 37 (f := .glo "_law_choose") rfl)
  have gl38 := He.glo_ok X G (c.fact 38 (f := .glo "_law_is_book") rfl)
  have gl39 := He.glo_ok X G (c.fact 39 (f := .glo "_law_ints") rfl)
  have gl40 := He.glo_ok X G (c.fact 40 (f := .glo "_law_book_of") rfl)
  have gl41 := He.glo_ok X G (c.fact 41 (f := .glo "_law_broken") rfl)
  have gl42 := He.glo_ok X G (c.fact 42 (f := .glo "_law_is_arrangement") rfl)
  have gl43 := He.glo_ok X G (c.fact 43 (f := .glo "_law_sides") rfl)
  have gl44 := He.glo_ok X G (c.fact 44 (f := .glo "_law_later") rfl)
  have gl45 := He.glo_ok X G (c.fact 45 (f := .glo "_law_grown") rfl)
  have gl46 := He.glo_ok X G (c.fact 46 (f := .glo "_law_arranged") rfl)
  have gl47 := He.glo_ok X G (c.fact 47 (f := .glo "_law_by_positions") rfl)
  have gl48 := He.glo_ok X G (c.fact 48 (f := .glo "_law_first_bar") rfl)
  have gl49 := He.glo_ok X G (c.fact 49 (f := .glo "_law_by_places") rfl)
  have gl50 := He.glo_ok X G (c.fact 50 (f := .glo "_law_positions_told") rfl)
  have gl51 := He.glo_ok X G (c.fact 51 (f := .glo "_law_places_told") rfl)
  have gl52 := He.glo_ok X G (c.fact 52 (f := .glo "_law_twice") rfl)
  have gl53 := He.glo_ok X G (c.fact 53 (f := .glo "_law_nothing_lost") rfl)
  have gl54 := He.glo_ok X G (c.fact 54 (f := .glo "_law_judged") rfl)
  have gl55 := He.glo_ok X G (c.fact 55 (f := .glo "_law_one_moved") rfl)
  have gl56 := He.glo_ok X G (c.fact 56 (f := .glo "law") rfl)
  have gl57 := He.glo_ok X G (c.fact 57 (f := .glo "Apart") rfl)
  have gl58 := He.glo_ok X G (c.fact 58 (f := .glo "Needs") rfl)
  have gl59 := He.glo_ok X G (c.fact 59 (f := .glo "RuleBook") rfl)
  have gl60 := He.glo_ok X G (c.fact 60 (f := .glo "PlaceClash") rfl)
  have gl61 := He.glo_ok X G (c.fact 61 (f := .glo "RuleClash") rfl)
  have gl62 := He.glo_ok X G (c.fact 62 (f := .glo "PositionClash") rfl)
  have gl63 := He.glo_ok X G (c.fact 63 (f := .glo "ClashError") rfl)
  have B : BT mg := ⟨He.free_ok X G (c.fact 0 (f := .free "len") rfl), He.free_ok X G (c.fact 1 (f := .free "int") rfl), He.free_ok X G (c.fact 2 (f := .free "list") rfl), He.free_ok X G (c.fact 3 (f := .free "range") rfl), He.free_ok X G (c.fact 4 (f := .free "sorted") rfl), He.free_ok X G (c.fact 5 (f := .free "set") rfl), He.free_ok X G (c.fact 6 (f := .free "tuple") rfl), He.free_ok X G (c.fact 7 (f := .free "min") rfl), He.free_ok X G (c.fact 8 (f := .free "enumerate") rfl), He.free_ok X G (c.fact 9 (f := .free "isinstance") rfl), He.free_ok X G (c.fact 10 (f := .free "repr") rfl), He.free_ok X G (c.fact 11 (f := .free "super") rfl), He.free_ok X G (c.fact 12 (f := .free "dict") rfl), He.free_ok X G (c.fact 13 (f := .free "bool") rfl), He.free_ok X G (c.fact 14 (f := .free "iter") rfl)⟩
  have cl_Apart := He.cls_ok (c.fact 64 (f := .cls "Apart") rfl)
  have cl_Needs := He.cls_ok (c.fact 65 (f := .cls "Needs") rfl)
  have cl_RuleBook := He.cls_ok (c.fact 66 (f := .cls "RuleBook") rfl)
  have na_Apart_places := He.noat_ok (c.fact 67 (f := .noat "Apart" "places") rfl)
  have na_Apart_width := He.noat_ok (c.fact 68 (f := .noat "Apart" "width") rfl)
  have na_Needs__pairs := He.noat_ok (c.fact 69 (f := .noat "Needs" "_pairs") rfl)
  have na_Needs_places := He.noat_ok (c.fact 70 (f := .noat "Needs" "places") rfl)
  have na_Needs_width := He.noat_ok (c.fact 71 (f := .noat "Needs" "width") rfl)
  have na_RuleBook__rows := He.noat_ok (c.fact 72 (f := .noat "RuleBook" "_rows") rfl)
  have na_PlaceClash_place := He.noat_ok (c.fact 73 (f := .noat "PlaceClash" "place") rfl)
  have na_PlaceClash_found := He.noat_ok (c.fact 74 (f := .noat "PlaceClash" "found") rfl)
  have na_RuleClash_key := He.noat_ok (c.fact 75 (f := .noat "RuleClash" "key") rfl)
  have na_RuleClash_bar := He.noat_ok (c.fact 76 (f := .noat "RuleClash" "bar") rfl)
  have na_PositionClash_position := He.noat_ok (c.fact 77 (f := .noat "PositionClash" "position") rfl)
  have me_Apart_bars_in := He.meth_ok (c.fact 78 (f := .meth "Apart" "bars_in") rfl)
  have me_Apart_reason := He.meth_ok (c.fact 79 (f := .meth "Apart" "reason") rfl)
  have me_Needs_bars_in := He.meth_ok (c.fact 80 (f := .meth "Needs" "bars_in") rfl)
  have me_Needs_reason := He.meth_ok (c.fact 81 (f := .meth "Needs" "reason") rfl)
  have me_RuleBook_reason := He.meth_ok (c.fact 82 (f := .meth "RuleBook" "reason") rfl)
  have mk_Apart := He.mkr_ok (c.fact 83 (f := .mkr "Apart") rfl)
  have mk_Needs := He.mkr_ok (c.fact 84 (f := .mkr "Needs") rfl)
  have mk_RuleBook := He.mkr_ok (c.fact 85 (f := .mkr "RuleBook") rfl)
  have ex_PositionClash_PositionClash := He.exm_ok (c.fact 86 (f := .exm "PositionClash" "PositionClash" true) rfl)
  have ex_PlaceClash_PlaceClash := He.exm_ok (c.fact 87 (f := .exm "PlaceClash" "PlaceClash" true) rfl)
  have ex_RuleClash_RuleClash := He.exm_ok (c.fact 88 (f := .exm "RuleClash" "RuleClash" true) rfl)
  have ex_RuleClash_PlaceClash := He.exm_ok (c.fact 89 (f := .exm "RuleClash" "PlaceClash" false) rfl)
  have su_PositionClash : SupTxt (PySem.Challenge.rw_forkedshelves_k80_items_by_two_roads).prog K (He.ga K "PositionClash") (He.ma K (He.ga K "PositionClash") "__init__") "__init__" "PositionClash.__init__" (defArgs s_PositionClash_init) (defBody s_PositionClash_init) (defScope s_PositionClash_init) := supB_ok (d := d_PositionClash_init) rfl rfl (by decide +kernel) (c.sup 0 (d := d_PositionClash_init) rfl) (c.own 0 rfl)
  have su_PlaceClash : SupTxt (PySem.Challenge.rw_forkedshelves_k80_items_by_two_roads).prog K (He.ga K "PlaceClash") (He.ma K (He.ga K "PlaceClash") "__init__") "__init__" "PlaceClash.__init__" (defArgs s_PlaceClash_init) (defBody s_PlaceClash_init) (defScope s_PlaceClash_init) := supB_ok (d := d_PlaceClash_init) rfl rfl (by decide +kernel) (c.sup 1 (d := d_PlaceClash_init) rfl) (c.own 1 rfl)
  have su_RuleClash : SupTxt (PySem.Challenge.rw_forkedshelves_k80_items_by_two_roads).prog K (He.ga K "RuleClash") (He.ma K (He.ga K "RuleClash") "__init__") "__init__" "RuleClash.__init__" (defArgs s_RuleClash_init) (defBody s_RuleClash_init) (defScope s_RuleClash_init) := supB_ok (d := d_RuleClash_init) rfl rfl (by decide +kernel) (c.sup 2 (d := d_RuleClash_init) rfl) (c.own 2 rfl)
  have er_PositionClash := errB_ok (K := K) (D := He.ga K "PositionClash") (c.own 3 (f := fun K => errB K (He.ga K "PositionClash")) rfl)
  have er_PlaceClash := errB_ok (K := K) (D := He.ga K "PlaceClash") (c.own 4 (f := fun K => errB K (He.ga K "PlaceClash")) rfl)
  have er_RuleClash := errB_ok (K := K) (D := He.ga K "RuleClash") (c.own 5 (f := fun K => errB K (He.ga K "RuleClash")) rfl)
  have ki_PositionClash_ClashError : PySem.W.kitOne K (.ref (He.ga K "PositionClash")) (.ref (He.ga K "ClashError")) = some true := of_decide_eq_true (c.own 6 (f := fun K => decide (PySem.W.kitOne K (.ref (He.ga K "PositionClash")) (.ref (He.ga K "ClashError")) = some true)) rfl)
  have ki_PlaceClash_ClashError : PySem.W.kitOne K (.ref (He.ga K "PlaceClash")) (.ref (He.ga K "ClashError")) = some true := of_decide_eq_true (c.own 7 (f := fun K => decide (PySem.W.kitOne K (.ref (He.ga K "PlaceClash")) (.ref (He.ga K "ClashError")) = some true)) rfl)
  have ki_RuleClash_ClashError : PySem.W.kitOne K (.ref (He.ga K "RuleClash")) (.ref (He.ga K "ClashError")) = some true := of_decide_eq_true (c.own 8 (f := fun K => decide (PySem.W.kitOne K (.ref (He.ga K "RuleClash")) (.ref (He.ga K "ClashError")) = some true)) rfl)
  have el := hfa.symm.trans gl56
  cases el
  obtain ⟨fd_ascending, F_ascending⟩ := c.def_ 0 (d := d_ascending) rfl
  obtain ⟨fd_bar_of, F_bar_of⟩ := c.def_ 1 (d := d_bar_of) rfl
  obtain ⟨fd_bars_in_order, F_bars_in_order⟩ := c.def_ 2 (d := d_bars_in_order) rfl
  obtain ⟨fd_first_repeated, F_first_repeated⟩ := c.def_ 3 (d := d_first_repeated) rfl
  obtain ⟨fd_merge_positions, F_merge_positions⟩ := c.def_ 4 (d := d_merge_positions) rfl
  obtain ⟨fd_doubled, F_doubled⟩ := c.def_ 5 (d := d_doubled) rfl
  obtain ⟨fd_value_at, F_value_at⟩ := c.def_ 6 (d := d_value_at) rfl
  obtain ⟨fd_distinct, F_distinct⟩ := c.def_ 7 (d := d_distinct) rfl
  obtain ⟨fd_filled_marks, F_filled_marks⟩ := c.def_ 8 (d := d_filled_marks) rfl
  obtain ⟨fd_first_of, F_first_of⟩ := c.def_ 9 (d := d_first_of) rfl
  obtain ⟨fd_Apart_init, F_Apart_init⟩ := c.def_ 10 (d := d_Apart_init) rfl
  obtain ⟨fd_Apart_bars_in, F_Apart_bars_in⟩ := c.def_ 11 (d := d_Apart_bars_in) rfl
  obtain ⟨fd_Apart_reason, F_Apart_reason⟩ := c.def_ 12 (d := d_Apart_reason) rfl
  obtain ⟨fd_Needs_init, F_Needs_init⟩ := c.def_ 13 (d := d_Needs_init) rfl
  obtain ⟨fd_Needs_bars_in, F_Needs_bars_in⟩ := c.def_ 14 (d := d_Needs_bars_in) rfl
  obtain ⟨fd_Needs_reason, F_Needs_reason⟩ := c.def_ 15 (d := d_Needs_reason) rfl
  obtain ⟨fd_RuleBook_init, F_RuleBook_init⟩ := c.def_ 16 (d := d_RuleBook_init) rfl
  obtain ⟨fd_RuleBook_iter, F_RuleBook_iter⟩ := c.def_ 17 (d := d_RuleBook_iter) rfl
  obtain ⟨fd_RuleBook_reason, F_RuleBook_reason⟩ := c.def_ 18 (d := d_RuleBook_reason) rfl
  obtain ⟨fd_position_place, F_position_place⟩ := c.def_ 19 (d := d_position_place) rfl
  obtain ⟨fd_content_place, F_content_place⟩ := c.def_ 20 (d := d_content_place) rfl
  obtain ⟨fd_item_rules, F_item_rules⟩ := c.def_ 21 (d := d_item_rules) rfl
  obtain ⟨fd_arrange, F_arrange⟩ := c.def_ 22 (d := d_arrange) rfl
  obtain ⟨fd_moving, F_moving⟩ := c.def_ 23 (d := d_moving) rfl
  obtain ⟨fd_changing, F_changing⟩ := c.def_ 24 (d := d_changing) rfl
  obtain ⟨fd_merged_value, F_merged_value⟩ := c.def_ 25 (d := d_merged_value) rfl
  obtain ⟨fd_value_merge, F_value_merge⟩ := c.def_ 26 (d := d_value_merge) rfl
  obtain ⟨fd_require_lawful, F_require_lawful⟩ := c.def_ 27 (d := d_require_lawful) rfl
  obtain ⟨fd_merge_two, F_merge_two⟩ := c.def_ 28 (d := d_merge_two) rfl
  obtain ⟨fd_open, F_open⟩ := c.def_ 29 (d := d_open) rfl
  obtain ⟨fd_take, F_take⟩ := c.def_ 30 (d := d_take) rfl
  obtain ⟨fd_choose, F_choose⟩ := c.def_ 31 (d := d_choose) rfl
  obtain ⟨fd_is_book, F_is_book⟩ := c.def_ 32 (d := d_is_book) rfl
  obtain ⟨fd_ints, F_ints⟩ := c.def_ 33 (d := d_ints) rfl
  obtain ⟨fd_book_of, F_book_of⟩ := c.def_ 34 (d := d_book_of) rfl
  obtain ⟨fd_broken, F_broken⟩ := c.def_ 35 (d := d_broken) rfl
  obtain ⟨fd_is_arrangement, F_is_arrangement⟩ := c.def_ 36 (d := d_is_arrangement) rfl
  obtain ⟨fd_sides, F_sides⟩ := c.def_ 37 (d := d_sides) rfl
  obtain ⟨fd_later, F_later⟩ := c.def_ 38 (d := d_later) rfl
  obtain ⟨fd_grown, F_grown⟩ := c.def_ 39 (d := d_grown) rfl
  obtain ⟨fd_arranged, F_arranged⟩ := c.def_ 40 (d := d_arranged) rfl
  obtain ⟨fd_by_positions, F_by_positions⟩ := c.def_ 41 (d := d_by_positions) rfl
  obtain ⟨fd_first_bar, F_first_bar⟩ := c.def_ 42 (d := d_first_bar) rfl
  obtain ⟨fd_by_places, F_by_places⟩ := c.def_ 43 (d := d_by_places) rfl
  obtain ⟨fd_positions_told, F_positions_told⟩ := c.def_ 44 (d := d_positions_told) rfl
  obtain ⟨fd_places_told, F_places_told⟩ := c.def_ 45 (d := d_places_told) rfl
  obtain ⟨fd_twice, F_twice⟩ := c.def_ 46 (d := d_twice) rfl
  obtain ⟨fd_nothing_lost, F_nothing_lost⟩ := c.def_ 47 (d := d_nothing_lost) rfl
  obtain ⟨fd_judged, F_judged⟩ := c.def_ 48 (d := d_judged) rfl
  obtain ⟨fd_one_moved, F_one_moved⟩ := c.def_ 49 (d := d_one_moved) rfl
  obtain ⟨fd_law, F_law⟩ := c.def_ 50 (d := d_law) rfl
  refine ⟨fd_law, fun s v => FunD.bindsA (ps := ["_law_script"]) F_law (fun _ _ _ _ _ _ us hl => match us, hl with | [_], _ => rfl) s [v] rfl, fun base _ _ => ?_⟩
  have ca_PositionClash : Caught K (He.ga K "PositionClash") (He.ga K "ClashError") := ⟨er_PositionClash.1, er_PositionClash.2, ex_PositionClash_PositionClash, ki_PositionClash_ClashError⟩
  have ca_PlaceClash : Caught K (He.ga K "PlaceClash") (He.ga K "ClashError") := ⟨er_PlaceClash.1, er_PlaceClash.2, ex_PlaceClash_PlaceClash, ki_PlaceClash_ClashError⟩
  have ca_RuleClash : Caught K (He.ga K "RuleClash") (He.ga K "ClashError") := ⟨er_RuleClash.1, er_RuleClash.2, ex_RuleClash_RuleClash, ki_RuleClash_ClashError⟩
  have X_PositionClash : HasX (PySem.Challenge.rw_forkedshelves_k80_items_by_two_roads).prog w K mg base 1 "PositionClash" (He.ga K "PositionClash") (sp_PositionClash_init (He.ga K "PositionClash")) := ⟨su_PositionClash.oex, by assumption, let ⟨fd, F, b⟩ := ok_PositionClash_init su_PositionClash B na_PositionClash_position; ⟨_, fd, _, su_PositionClash.ini, su_PositionClash.tyf, F, b⟩⟩
  have X_PlaceClash : HasX (PySem.Challenge.rw_forkedshelves_k80_items_by_two_roads).prog w K mg base 1 "PlaceClash" (He.ga K "PlaceClash") (sp_PlaceClash_init (He.ga K "PlaceClash") K) := ⟨su_PlaceClash.oex, by assumption, let ⟨fd, F, b⟩ := ok_PlaceClash_init su_PlaceClash B na_PlaceClash_place na_PlaceClash_found; ⟨_, fd, _, su_PlaceClash.ini, su_PlaceClash.tyf, F, b⟩⟩
  have X_RuleClash : HasX (PySem.Challenge.rw_forkedshelves_k80_items_by_two_roads).prog w K mg base 1 "RuleClash" (He.ga K "RuleClash") (sp_RuleClash_init (He.ga K "RuleClash")) := ⟨su_RuleClash.oex, by assumption, let ⟨fd, F, b⟩ := ok_RuleClash_init su_RuleClash B na_RuleClash_key na_RuleClash_bar; ⟨_, fd, _, su_RuleClash.ini, su_RuleClash.tyf, F, b⟩⟩
  have H_ints : HasH (PySem.Challenge.rw_forkedshelves_k80_items_by_two_roads).prog w K mg base 1 "_law_ints" sp_ints := ⟨⟨_, fd_ints, _, by assumption, hot_ints F_ints B, F_ints.bindsN (fun _ _ _ _ _ _ us hl => match us, hl with | [_], _ => rfl), F_ints.kp⟩⟩
  have G_open : Has (PySem.Challenge.rw_forkedshelves_k80_items_by_two_roads).prog w K mg base CX0 1 "_law_open" (sp_open K) := ⟨⟨_, fd_open, _, gl35, (ok_open F_open B), F_open.bindsN (fun _ _ _ _ _ _ us hl => match us, hl with | [_, _], _ => rfl), F_open.kp⟩⟩
  have G_take : Has (PySem.Challenge.rw_forkedshelves_k80_items_by_two_roads).prog w K mg base CX0 1 "_law_take" sp_take := ⟨⟨_, fd_take, _, gl36, (ok_take F_take B), F_take.bindsN (fun _ _ _ _ _ _ us hl => match us, hl with | [_, _], _ => rfl), F_take.kp⟩⟩
  have G_choose : Has (PySem.Challenge.rw_forkedshelves_k80_items_by_two_roads).prog w K mg base CX0 2 "_law_choose" (sp_choose K) := ⟨⟨_, fd_choose, _, gl37, (ok_choose F_choose B G_take), F_choose.bindsN (fun _ _ _ _ _ _ us hl => match us, hl with | [_, _, _], _ => rfl), F_choose.kp⟩⟩
  have G_sides : Has (PySem.Challenge.rw_forkedshelves_k80_items_by_two_roads).prog w K mg base CX0 3 "_law_sides" (sp_sides K) := ⟨⟨_, fd_sides, _, gl43, (ok_sides F_sides B G_take G_choose), F_sides.bindsN (fun _ _ _ _ _ _ us hl => match us, hl with | [_, _], _ => rfl), F_sides.kp⟩⟩
  have G_broken : Has (PySem.Challenge.rw_forkedshelves_k80_items_by_two_roads).prog w K mg base CX0 1 "_law_broken" (sp_broken K) := ⟨⟨_, fd_broken, _, gl41, (ok_broken F_broken B), F_broken.bindsN (fun _ _ _ _ _ _ us hl => match us, hl with | [_], _ => rfl), F_broken.kp⟩⟩
  have G_later : Has (PySem.Challenge.rw_forkedshelves_k80_items_by_two_roads).prog w K mg base CX0 2 "_law_later" (sp_later K) := ⟨⟨_, fd_later, _, gl44, (ok_later F_later B G_take G_broken), F_later.bindsN (fun _ _ _ _ _ _ us hl => match us, hl with | [_, _, _, _], _ => rfl), F_later.kp⟩⟩
  have G_grown : Has (PySem.Challenge.rw_forkedshelves_k80_items_by_two_roads).prog w K mg base CX0 3 "_law_grown" (sp_grown K) := ⟨⟨_, fd_grown, _, gl45, (ok_grown F_grown B G_later), F_grown.bindsN (fun _ _ _ _ _ _ us hl => match us, hl with | [_, _, _, _, _], _ => rfl), F_grown.kp⟩⟩
  have G_position_place : Has (PySem.Challenge.rw_forkedshelves_k80_items_by_two_roads).prog w K mg base CX0 1 "position_place" sp_position_place := ⟨⟨_, fd_position_place, _, gl25, (ok_position_place F_position_place), F_position_place.bindsN (fun _ _ _ _ _ _ us hl => match us, hl with | [_], _ => rfl), F_position_place.kp⟩⟩
  have G_content_place : Has (PySem.Challenge.rw_forkedshelves_k80_items_by_two_roads).prog w K mg base CX0 1 "content_place" sp_content_place := ⟨⟨_, fd_content_place, _, gl26, (ok_content_place F_content_place), F_content_place.bindsN (fun _ _ _ _ _ _ us hl => match us, hl with | [_], _ => rfl), F_content_place.kp⟩⟩
  have G_first_repeated : Has (PySem.Challenge.rw_forkedshelves_k80_items_by_two_roads).prog w K mg base CX0 1 "first_repeated" (sp_first_repeated K) := ⟨⟨_, fd_first_repeated, _, gl18, (ok_first_repeated F_first_repeated B), F_first_repeated.bindsN (fun _ _ _ _ _ _ us hl => match us, hl with | [_], _ => rfl), F_first_repeated.kp⟩⟩
  have G_distinct : Has (PySem.Challenge.rw_forkedshelves_k80_items_by_two_roads).prog w K mg base CX0 2 "distinct" (sp_distinct K) := ⟨⟨_, fd_distinct, _, gl22, (ok_distinct F_distinct B G_first_repeated), F_distinct.bindsN (fun _ _ _ _ _ _ us hl => match us, hl with | [_], _ => rfl), F_distinct.kp⟩⟩
  have M_Apart : HasC (PySem.Challenge.rw_forkedshelves_k80_items_by_two_roads).prog w K mg base CX0 3 "Apart" (He.ga K "Apart") (sp_Apart_init (He.ga K "Apart") K) := ⟨cl_Apart, gl57, ⟨_, fd_Apart_init, _, mk_Apart, (ok_Apart_init F_Apart_init B (by assumption) (by assumption) (by assumption) G_distinct), F_Apart_init.bindsN (fun _ _ _ _ _ _ us hl => match us, hl with | [_, _], _ => rfl)⟩⟩
  have M_Needs : HasC (PySem.Challenge.rw_forkedshelves_k80_items_by_two_roads).prog w K mg base CX0 1 "Needs" (He.ga K "Needs") (sp_Needs_init (He.ga K "Needs") K) := ⟨cl_Needs, gl58, ⟨_, fd_Needs_init, _, mk_Needs, (ok_Needs_init F_Needs_init B (by assumption) (by assumption) (by assumption) (by assumption)), F_Needs_init.bindsN (fun _ _ _ _ _ _ us hl => match us, hl with | [_, _], _ => rfl)⟩⟩
  have M_RuleBook : HasC (PySem.Challenge.rw_forkedshelves_k80_items_by_two_roads).prog w K mg base CX0 2 "RuleBook" (He.ga K "RuleBook") (sp_RuleBook_init (He.ga K "RuleBook") K) := ⟨cl_RuleBook, gl59, ⟨_, fd_RuleBook_init, _, mk_RuleBook, (ok_RuleBook_init F_RuleBook_init B (by assumption) (by assumption) G_first_repeated), F_RuleBook_init.bindsN (fun _ _ _ _ _ _ us hl => match us, hl with | [_, _], _ => rfl)⟩⟩
  have G_item_rules : Has (PySem.Challenge.rw_forkedshelves_k80_items_by_two_roads).prog w K mg base CX0 5 "item_rules" (sp_item_rules (He.ga K "RuleBook") (He.ga K "Apart") (He.ga K "Needs")) := ⟨⟨_, fd_item_rules, _, gl27, (ok_item_rules F_item_rules B G_position_place G_content_place M_Apart M_Needs M_RuleBook), F_item_rules.bindsN (fun _ _ _ _ _ _ us hl => match us, hl with | [_], _ => rfl), F_item_rules.kp⟩⟩
  have G_arranged : Has (PySem.Challenge.rw_forkedshelves_k80_items_by_two_roads).prog w K mg base CX0 1 "_law_arranged" (sp_arranged K) := ⟨⟨_, fd_arranged, _, gl46, (ok_arranged F_arranged B), F_arranged.bindsN (fun _ _ _ _ _ _ us hl => match us, hl with | [_], _ => rfl), F_arranged.kp⟩⟩
  have G_book_of : Has (PySem.Challenge.rw_forkedshelves_k80_items_by_two_roads).prog w K mg base CX0 1 "_law_book_of" (sp_book_of K) := ⟨⟨_, fd_book_of, _, gl40, (ok_book_of F_book_of B), F_book_of.bindsN (fun _ _ _ _ _ _ us hl => match us, hl with | [_], _ => rfl), F_book_of.kp⟩⟩
  have G_by_positions : Has (PySem.Challenge.rw_forkedshelves_k80_items_by_two_roads).prog w K mg base CX0 1 "_law_by_positions" (sp_by_positions K) := ⟨⟨_, fd_by_positions, _, gl47, (ok_by_positions F_by_positions B), F_by_positions.bindsN (fun _ _ _ _ _ _ us hl => match us, hl with | [_], _ => rfl), F_by_positions.kp⟩⟩
  have G_first_bar : Has (PySem.Challenge.rw_forkedshelves_k80_items_by_two_roads).prog w K mg base CX0 1 "_law_first_bar" (sp_first_bar K) := ⟨⟨_, fd_first_bar, _, gl48, (ok_first_bar F_first_bar B), F_first_bar.bindsN (fun _ _ _ _ _ _ us hl => match us, hl with | [_, _], _ => rfl), F_first_bar.kp⟩⟩
  have G_by_places : Has (PySem.Challenge.rw_forkedshelves_k80_items_by_two_roads).prog w K mg base CX0 2 "_law_by_places" (sp_by_places K) := ⟨⟨_, fd_by_places, _, gl49, (ok_by_places F_by_places B G_broken G_book_of G_first_bar), F_by_places.bindsN (fun _ _ _ _ _ _ us hl => match us, hl with | [_], _ => rfl), F_by_places.kp⟩⟩
  have G_ascending : Has (PySem.Challenge.rw_forkedshelves_k80_items_by_two_roads).prog w K mg base CX0 1 "ascending" (sp_ascending K) := ⟨⟨_, fd_ascending, _, gl15, (ok_ascending F_ascending B), F_ascending.bindsN (fun _ _ _ _ _ _ us hl => match us, hl with | [_], _ => rfl), F_ascending.kp⟩⟩
  have G_merge_positions : Has (PySem.Challenge.rw_forkedshelves_k80_items_by_two_roads).prog w K mg base (L2N.CX (PySem.Challenge.rw_forkedshelves_k80_items_by_two_roads).prog w) 3 "merge_positions" (sp_merge_positions (He.ga K "PositionClash") K) := ⟨⟨_, fd_merge_positions, _, gl19, (ok_merge_positions F_merge_positions B G_ascending X_PositionClash), F_merge_positions.bindsN (fun _ _ _ _ _ _ us hl => match us, hl with | [_, _, _], _ => rfl), F_merge_positions.kp⟩⟩
  have G_ints : Has (PySem.Challenge.rw_forkedshelves_k80_items_by_two_roads).prog w K mg base CX0 1 "_law_ints" sp_ints := ⟨⟨_, fd_ints, _, gl39, (ok_ints F_ints B), F_ints.bindsN (fun _ _ _ _ _ _ us hl => match us, hl with | [_], _ => rfl), F_ints.kp⟩⟩
  have G_positions_told : Has (PySem.Challenge.rw_forkedshelves_k80_items_by_two_roads).prog w K mg base CX0 4 "_law_positions_told" (sp_positions_told K) := ⟨⟨_, fd_positions_told, _, gl50, (ok_positions_told F_positions_told B G_merge_positions H_ints (by assumption) (by assumption) (by assumption) (by assumption)), F_positions_told.bindsN (fun _ _ _ _ _ _ us hl => match us, hl with | [_], _ => rfl), F_positions_told.kp⟩⟩
  have G_value_at : Has (PySem.Challenge.rw_forkedshelves_k80_items_by_two_roads).prog w K mg base CX0 1 "value_at" (sp_value_at K) := ⟨⟨_, fd_value_at, _, gl21, (ok_value_at F_value_at), F_value_at.bindsN (fun _ _ _ _ _ _ us hl => match us, hl with | [_, _], _ => rfl), F_value_at.kp⟩⟩
  have G_first_of : Has (PySem.Challenge.rw_forkedshelves_k80_items_by_two_roads).prog w K mg base CX0 1 "first_of" (sp_first_of K) := ⟨⟨_, fd_first_of, _, gl24, (ok_first_of F_first_of), F_first_of.bindsN (fun _ _ _ _ _ _ us hl => match us, hl with | [_], _ => rfl), F_first_of.kp⟩⟩
  have G_filled_marks : Has (PySem.Challenge.rw_forkedshelves_k80_items_by_two_roads).prog w K mg base CX0 2 "filled_marks" (sp_filled_marks K) := ⟨⟨_, fd_filled_marks, _, gl23, (ok_filled_marks F_filled_marks B G_ascending G_value_at), F_filled_marks.bindsN (fun _ _ _ _ _ _ us hl => match us, hl with | [_, _], _ => rfl), F_filled_marks.kp⟩⟩
  have M_Apart_bars_in : HasM (PySem.Challenge.rw_forkedshelves_k80_items_by_two_roads).prog w K mg base CX0 3 (He.ga K "Apart") "bars_in" (sp_Apart_bars_in (He.ga K "Apart") K) := ⟨cl_Apart, ⟨_, fd_Apart_bars_in, _, me_Apart_bars_in, (ok_Apart_bars_in F_Apart_bars_in B (by assumption) (by assumption) G_filled_marks), F_Apart_bars_in.bindsN (fun _ _ _ _ _ _ us hl => match us, hl with | [_, _], _ => rfl)⟩⟩
  have M_Apart_reason : HasM (PySem.Challenge.rw_forkedshelves_k80_items_by_two_roads).prog w K mg base CX0 4 (He.ga K "Apart") "reason" (sp_Apart_reason (He.ga K "Apart") K) := ⟨cl_Apart, ⟨_, fd_Apart_reason, _, me_Apart_reason, (ok_Apart_reason F_Apart_reason G_first_of M_Apart_bars_in), F_Apart_reason.bindsN (fun _ _ _ _ _ _ us hl => match us, hl with | [_, _], _ => rfl)⟩⟩
  have G_bar_of : Has (PySem.Challenge.rw_forkedshelves_k80_items_by_two_roads).prog w K mg base CX0 1 "bar_of" (sp_bar_of K) := ⟨⟨_, fd_bar_of, _, gl16, (ok_bar_of F_bar_of B), F_bar_of.bindsN (fun _ _ _ _ _ _ us hl => match us, hl with | [_], _ => rfl), F_bar_of.kp⟩⟩
  have G_bars_in_order : Has (PySem.Challenge.rw_forkedshelves_k80_items_by_two_roads).prog w K mg base CX0 1 "bars_in_order" (sp_bars_in_order K) := ⟨⟨_, fd_bars_in_order, _, gl17, (ok_bars_in_order F_bars_in_order B), F_bars_in_order.bindsN (fun _ _ _ _ _ _ us hl => match us, hl with | [_], _ => rfl), F_bars_in_order.kp⟩⟩
  have M_Needs_bars_in : HasM (PySem.Challenge.rw_forkedshelves_k80_items_by_two_roads).prog w K mg base CX0 3 (He.ga K "Needs") "bars_in" (sp_Needs_bars_in (He.ga K "Needs") K) := ⟨cl_Needs, ⟨_, fd_Needs_bars_in, _, me_Needs_bars_in, (ok_Needs_bars_in F_Needs_bars_in B (by assumption) (by assumption) G_value_at G_bar_of G_bars_in_order), F_Needs_bars_in.bindsN (fun _ _ _ _ _ _ us hl => match us, hl with | [_, _], _ => rfl)⟩⟩
  have M_Needs_reason : HasM (PySem.Challenge.rw_forkedshelves_k80_items_by_two_roads).prog w K mg base CX0 4 (He.ga K "Needs") "reason" (sp_Needs_reason (He.ga K "Needs") K) := ⟨cl_Needs, ⟨_, fd_Needs_reason, _, me_Needs_reason, (ok_Needs_reason F_Needs_reason G_first_of M_Needs_bars_in), F_Needs_reason.bindsN (fun _ _ _ _ _ _ us hl => match us, hl with | [_, _], _ => rfl)⟩⟩
  have M_RuleBook_reason : HasM (PySem.Challenge.rw_forkedshelves_k80_items_by_two_roads).prog w K mg base CX0 5 (He.ga K "RuleBook") "reason" (sp_RuleBook_reason (He.ga K "RuleBook") (He.ga K "Apart") (He.ga K "Needs") K) := ⟨cl_RuleBook, ⟨_, fd_RuleBook_reason, _, me_RuleBook_reason, (ok_RuleBook_reason F_RuleBook_reason (by assumption) (by assumption) M_Apart_reason M_Needs_reason), F_RuleBook_reason.bindsN (fun _ _ _ _ _ _ us hl => match us, hl with | [_, _], _ => rfl)⟩⟩
  have G_require_lawful : Has (PySem.Challenge.rw_forkedshelves_k80_items_by_two_roads).prog w K mg base CX0 6 "require_lawful" (sp_require_lawful (He.ga K "RuleBook") (He.ga K "Apart") (He.ga K "Needs")) := ⟨⟨_, fd_require_lawful, _, gl33, (ok_require_lawful F_require_lawful M_RuleBook_reason), F_require_lawful.bindsN (fun _ _ _ _ _ _ us hl => match us, hl with | [_, _], _ => rfl), F_require_lawful.kp⟩⟩
  have G_merged_value : Has (PySem.Challenge.rw_forkedshelves_k80_items_by_two_roads).prog w K mg base CX0 1 "merged_value" sp_merged_value := ⟨⟨_, fd_merged_value, _, gl31, (ok_merged_value F_merged_value), F_merged_value.bindsN (fun _ _ _ _ _ _ us hl => match us, hl with | [_, _, _, _], _ => rfl), F_merged_value.kp⟩⟩
  have G_value_merge : Has (PySem.Challenge.rw_forkedshelves_k80_items_by_two_roads).prog w K mg base CX0 2 "value_merge" (sp_value_merge K) := ⟨⟨_, fd_value_merge, _, gl32, (ok_value_merge F_value_merge B G_ascending G_value_at G_merged_value), F_value_merge.bindsN (fun _ _ _ _ _ _ us hl => match us, hl with | [_, _, _, _], _ => rfl), F_value_merge.kp⟩⟩
  have G_merge_two : Has (PySem.Challenge.rw_forkedshelves_k80_items_by_two_roads).prog w K mg base (L2N.CX (PySem.Challenge.rw_forkedshelves_k80_items_by_two_roads).prog w) 7 "merge_two" (sp_merge_two (He.ga K "RuleBook") (He.ga K "Apart") (He.ga K "Needs") (He.ga K "PlaceClash") (He.ga K "RuleClash") K) := ⟨⟨_, fd_merge_two, _, gl34, (ok_merge_two F_merge_two B G_ascending G_value_at G_require_lawful G_value_merge M_RuleBook_reason X_PlaceClash X_RuleClash), F_merge_two.bindsN (fun _ _ _ _ _ _ us hl => match us, hl with | [_, _, _, _], _ => rfl), F_merge_two.kp⟩⟩
  have G_places_told : Has (PySem.Challenge.rw_forkedshelves_k80_items_by_two_roads).prog w K mg base CX0 8 "_law_places_told" (sp_places_told (He.ga K "RuleBook") (He.ga K "Apart") (He.ga K "Needs") K) := ⟨⟨_, fd_places_told, _, gl51, (ok_places_told F_places_told B G_merge_two H_ints (by assumption) (by assumption) (by assumption) (by assumption) (by assumption) (by assumption) (by assumption) (by assumption) (by assumption) (by assumption)), F_places_told.bindsN (fun _ _ _ _ _ _ us hl => match us, hl with | [_, _], _ => rfl), F_places_told.kp⟩⟩
  have G_is_arrangement : Has (PySem.Challenge.rw_forkedshelves_k80_items_by_two_roads).prog w K mg base CX0 2 "_law_is_arrangement" sp_is_arrangement := ⟨⟨_, fd_is_arrangement, _, gl42, (ok_is_arrangement F_is_arrangement B G_ints), F_is_arrangement.bindsN (fun _ _ _ _ _ _ us hl => match us, hl with | [_], _ => rfl), F_is_arrangement.kp⟩⟩
  have G_doubled : Has (PySem.Challenge.rw_forkedshelves_k80_items_by_two_roads).prog w K mg base CX0 2 "doubled" (sp_doubled K) := ⟨⟨_, fd_doubled, _, gl20, (ok_doubled F_doubled B G_ascending), F_doubled.bindsN (fun _ _ _ _ _ _ us hl => match us, hl with | [_], _ => rfl), F_doubled.kp⟩⟩
  have G_twice : Has (PySem.Challenge.rw_forkedshelves_k80_items_by_two_roads).prog w K mg base CX0 1 "_law_twice" (sp_twice K) := ⟨⟨_, fd_twice, _, gl52, (ok_twice F_twice B), F_twice.bindsN (fun _ _ _ _ _ _ us hl => match us, hl with | [_], _ => rfl), F_twice.kp⟩⟩
  have G_nothing_lost : Has (PySem.Challenge.rw_forkedshelves_k80_items_by_two_roads).prog w K mg base CX0 3 "_law_nothing_lost" (sp_nothing_lost K) := ⟨⟨_, fd_nothing_lost, _, gl53, (ok_nothing_lost F_nothing_lost B G_doubled G_ints G_twice), F_nothing_lost.bindsN (fun _ _ _ _ _ _ us hl => match us, hl with | [_, _], _ => rfl), F_nothing_lost.kp⟩⟩
  have G_arrange : Has (PySem.Challenge.rw_forkedshelves_k80_items_by_two_roads).prog w K mg base CX0 2 "arrange" (sp_arrange K) := ⟨⟨_, fd_arrange, _, gl28, (ok_arrange F_arrange B G_value_at G_position_place G_content_place), F_arrange.bindsN (fun _ _ _ _ _ _ us hl => match us, hl with | [_, _], _ => rfl), F_arrange.kp⟩⟩
  have G_is_book : Has (PySem.Challenge.rw_forkedshelves_k80_items_by_two_roads).prog w K mg base CX0 1 "_law_is_book" sp_is_book := ⟨⟨_, fd_is_book, _, gl38, (ok_is_book F_is_book B), F_is_book.bindsN (fun _ _ _ _ _ _ us hl => match us, hl with | [_], _ => rfl), F_is_book.kp⟩⟩
  have G_judged : HasG (PySem.Challenge.rw_forkedshelves_k80_items_by_two_roads).prog w K mg base 9 "_law_judged" (sp_judged (He.ga K "RuleBook") (He.ga K "Apart") (He.ga K "Needs") K) := ⟨⟨_, fd_judged, _, gl54, (ok_judged F_judged B G_arranged G_book_of G_by_positions G_by_places G_positions_told G_places_told G_is_arrangement G_nothing_lost G_doubled G_arrange G_is_book), F_judged.bindsN (fun _ _ _ _ _ _ us hl => match us, hl with | [_, _], _ => rfl), F_judged.kp⟩⟩
  have G_moving : Has (PySem.Challenge.rw_forkedshelves_k80_items_by_two_roads).prog w K mg base CX0 2 "moving" sp_moving := ⟨⟨_, fd_moving, _, gl29, (ok_moving F_moving G_position_place), F_moving.bindsN (fun _ _ _ _ _ _ us hl => match us, hl with | [_, _], _ => rfl), F_moving.kp⟩⟩
  have G_changing : Has (PySem.Challenge.rw_forkedshelves_k80_items_by_two_roads).prog w K mg base CX0 2 "changing" sp_changing := ⟨⟨_, fd_changing, _, gl30, (ok_changing F_changing G_content_place), F_changing.bindsN (fun _ _ _ _ _ _ us hl => match us, hl with | [_, _], _ => rfl), F_changing.kp⟩⟩
  have G_one_moved : HasG (PySem.Challenge.rw_forkedshelves_k80_items_by_two_roads).prog w K mg base 10 "_law_one_moved" (sp_one_moved (He.ga K "RuleBook") (He.ga K "Apart") (He.ga K "Needs") K) := ⟨⟨_, fd_one_moved, _, gl55, (ok_one_moved F_one_moved B G_take G_moving G_changing G_by_places G_judged), F_one_moved.bindsN (fun _ _ _ _ _ _ us hl => match us, hl with | [_, _, _], _ => rfl), F_one_moved.kp⟩⟩
  exact ok_law (CR := He.ga K "RuleBook") (CA := He.ga K "Apart") (CN := He.ga K "Needs") F_law B G_open G_take G_sides G_grown G_item_rules G_judged G_one_moved
end K80
end
set_option maxHeartbeats 0
open PySem PySem.W PySem.Calls PyProof.Rows
theorem PySem.Challenge.cw_forkedshelves_k80_items_by_two_roads_holds : PySem.Challenge.rw_forkedshelves_k80_items_by_two_roads.Holds := by
  w_on; o_law
  refine HandSHeadRun.head_any (r := OpenLaw.row PySem.Challenge.rw_forkedshelves_k80_items_by_two_roads) (q := view (OpenLaw.row PySem.Challenge.rw_forkedshelves_k80_items_by_two_roads).prog [64]) (H := K80.hk) (ob := K80.ob) (M := 6000) (loose := K80.loose) (d := HandSHeadRun.topDef (OpenLaw.row PySem.Challenge.rw_forkedshelves_k80_items_by_two_roads).prog 64) (kwd := []) K80.ob_eq
    (by kernel_rfl) (fun s => by kernel_rfl) K80.run (by kernel_rfl) (by kernel_rfl) (by kernel_rfl) (by rfl) (by first | assumption | decide +kernel) (by decide +kernel) ⟨rfl, rfl, rfl, rfl, rfl, by decide +kernel⟩ ?hw ?hc
  case hw => w_witness2
  case hc =>
    refine Inf.walk_G (l := PySem.Challenge.rw_forkedshelves_k80_items_by_two_roads) (n := 63) (k := 11) (x := "_law_script") rfl (by decide) (by kernel_rfl) ⟨rfl, by decide, by decide⟩ ?F
    intro w mg fa h Y G hmg0
    obtain ⟨K, KX, c⟩ := Y
    have hmg : mg ("law" : PySem.Str) = some (.ref fa) := by
      have e : (HandSHeadRun.topDef (OpenLaw.row PySem.Challenge.rw_forkedshelves_k80_items_by_two_roads).prog 64).name = ("law" : PySem.Str) := by kernel_rfl
      rw [← e]
      exact hmg0
    obtain ⟨fd, hb, hF⟩ := K80.facts (w := w) KX G hmg c
    exact ⟨K, fd, K80.sp_law K, KX, hb, fun H a ns hl _ hS => ⟨a, ns, rfl, hS, fun _ => rfl⟩, hF⟩
