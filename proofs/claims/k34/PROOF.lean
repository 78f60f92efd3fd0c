import PyProof.Rows.All
import Wide.All
import OpenK.AllK
import Wide.FinOn
import HandS.ExcInit
import HandS.ExcSuper
import HandS.Nested
import HandS.Words
import KE.KSuper
import KE.KExcSuper
import HandS.ForMost
import HandS.Flow
import HandS.IsInst
import HandS.TupAny
import HandS.TupMul
import HandS.WordsExc
import HandS.TryMany
import HandS.TryOnly
import HandS.Strs
import HandS.TupSets
import HandS.ExcField
import HandS.OwnEq
import PyProof.InstEq
import HandS.SetFor
import HandS.SortInts
import HandS.DictTup
import HandS.Dict
import HandS.DictComp
import HandS.Comp
import HandS.EndBits
import PySem.Challenge.RW_citywright_k34_whole_cities_and_plans
set_option Elab.async false
set_option maxRecDepth 100000
set_option maxHeartbeats 4000000
set_option linter.all false
set_option autoImplicit false
/-! An own error whose __init__ begins with super().__init__(place). -/
namespace VE
open PySem PySem.Spec PyProof.Rows L2 NdefX

/-- the words of such an __init__ -/
abbrev supSc : Scope := { kind := .function, names := [(PySem.Str.ofString "self", .local), (PySem.Str.ofString "place", .local), (PySem.Str.ofString "__class__", .free), (PySem.Str.ofString "super", .globalImplicit)], isGenerator := false, isCoroutine := false, more := [] }
abbrev supAr (q1 q2 : Pos) : Arguments := { posonlyargs := [], args := [{ arg := "self", annotation := none, pos := q1 }, { arg := "place", annotation := none, pos := q2 }], vararg := none, kwonlyargs := [], kw_defaults := [], kwarg := none, defaults := [] }
abbrev supNF (qual : Str) (q1 q2 : Pos) (body : List Stmt) (cc c : Addr) : NF := ⟨"__init__", qual, supAr q1 q2, body, supSc, [("__class__", cc)], c⟩
/-- what is written of it: at f, in the class at D, cc the cell of __class__, c its code -/
structure SupF (K : PySem.W.Frag) (P : Program) (mg : Str → Option Value) (qual : Str) (q1 q2 : Pos) (bd : List Stmt) (f D cc c : Addr) : Prop where
  lk : ∃ oc od doc pm an ctv sl, K.lookup f = some ⟨oc, od, .func (PySem.W.fnX "__init__" qual (supAr q1 q2) bd supSc [("__class__", cc)] .none .none doc pm an (.ref c) ctv), sl⟩
  cell : ∃ c d sl, K.lookup cc = some ⟨c, d, .cell (some (.ref D)), sl⟩
  code : PySem.W.codeIn K (.ref c) qual = true
  file : ∃ c1 d vs sl tf, K.lookup c = some ⟨c1, d, .fields vs, sl⟩ ∧ vs[2]? = some (.str P.main.file tf)
  top : (P.main.scope.names.lookup ("super" : Str)).isSome = false
  mgs : mg "super" = none
  clsD : (PySem.W.clsIn K D).isSome = true

theorem clsIn_at {K : PySem.W.Frag} {h : Heap} {D : Addr} (X : K.In h) (c : (PySem.W.clsIn K D).isSome = true) : ∃ oD cd, h.get? D = some oD ∧ oD.data = .cls cd := by
  obtain ⟨cd, e⟩ := Option.isSome_iff_exists.mp c
  unfold PySem.W.clsIn at e
  split at e
  · rename_i c d cd' sl ho
    cases e
    exact ⟨_, _, X _ _ ho, rfl⟩
  · cases e

theorem inv_pin {X : Cx} {pins : List (Addr × Obj)} {σ : L2.St} {H : Hp} {s : Shared} {b : Addr} {o : Obj} (I : Inv X pins σ H s) (hb : s.heap.get? b = some o) (n : H b = none) (nL : b ≠ X.env.locals) (nF : b ∉ X.fs) (nc : ∀ v, o.data ≠ .cell v) :
    Inv X ((b, o) :: pins) σ H s :=
  ⟨I.ok, I.os, I.bare, I.base, I.loc, I.cell, I.free, I.freeC, fun p hp => by
    rcases List.mem_append.mp hp with hp | hp
    · exact I.pin p (List.mem_append_left _ hp)
    · rcases List.mem_cons.mp hp with rfl | hp
      · exact ⟨hb, n, nL, nF, nc⟩
      · exact I.pin p (List.mem_append_right _ hp), I.hok, I.len⟩
theorem inv_unpin {X : Cx} {pins : List (Addr × Obj)} {σ : L2.St} {H : Hp} {s : Shared} {q : Addr × Obj} (I : Inv X (q :: pins) σ H s) : Inv X pins σ H s :=
  ⟨I.ok, I.os, I.bare, I.base, I.loc, I.cell, I.free, I.freeC, fun p hp => I.pin p (by
    rcases List.mem_append.mp hp with hp | hp
    · exact List.mem_append_left _ hp
    · exact List.mem_append_right _ (List.mem_cons_of_mem _ hp)), I.hok, I.len⟩

/-- how super().__init__(place) is run -/
def CallOk (qual : Str) (q1 q2 : Pos) (bd : List Stmt) (cc c f : Addr) (p0 p1 p2 p3 p4 : Pos) : Prop := ∀ L : Addr, ∃ pl : Sem Bool,
  eval (.Call (.Attribute (.Call (.Name "super" p0) [] [] p1) "__init__" p2) [.Name "place" p3] [] p4) (envF (supNF qual q1 q2 bd cc c) f L) = (do
      let ov ← attributeBase (.Call (.Name "super" p0) [] [] p1) "__init__" (envF (supNF qual q1 q2 bd cc c) f L) (eval (.Call (.Name "super" p0) [] [] p1) (envF (supNF qual q1 q2 bd cc c) f L))
      standAt p2.atName
      let (f1, first) ← holding [ov] (getMethod ov "__init__" pl)
      callWith p4 f1 first (backTo p4 (starEach [.Name "place" p3] (envF (supNF qual q1 q2 bd cc c) f L))) [])
example : CallOk "CityError.__init__" ⟨4, 17, 4, 21⟩ ⟨4, 17, 4, 21⟩ [] 5 6 7 ⟨5, 8, 5, 13⟩ ⟨5, 8, 5, 15⟩ ⟨5, 8, 5, 24⟩ ⟨5, 25, 5, 30⟩ ⟨5, 8, 5, 31⟩ := fun L => ⟨_, rfl⟩
/-- super().__init__(place) -/
abbrev supCall (p0 p1 p2 p3 p4 : Pos) : Expr := .Call (.Attribute (.Call (.Name "super" p0) [] [] p1) "__init__" p2) [.Name "place" p3] [] p4

section
variable {CX : CXT} {P : Program} {w : World} {K : PySem.W.Frag} {mg : Str → Option Value} {base : Heap} {qual : Str} {q1 q2 : Pos} {bd : List Stmt} {f D cc c : Addr} {A : Around} {outer : List Env} {s0 : Shared} {H0 : Hp} {E0 : XK}
abbrev Nsup : List Str := ["self", "place", "__class__"]
abbrev supX (CX : CXT) (P : Program) (w : World) (K : PySem.W.Frag) (mg : Str → Option Value) (base : Heap) (qual : Str) (q1 q2 : Pos) (bd : List Stmt) (cc c f : Addr) (A : Around) (outer : List Env) (s : Shared) (H : Hp) (E : XK) : Cx := ncx CX P w K mg base Nsup (supNF qual q1 q2 bd cc c) f A outer s H E
/-- the super object is made -/
theorem sup_node (S : SupF K P mg qual q1 q2 bd f D cc c) {σ : L2.St} {H : Hp} {s : Shared} {e C : Addr} {d : Option Addr} {body : List Stmt} {p0 p1 : Pos} {whole : Sem Value} {Q : Value → Shared → Prop}
    (I : Inv (supX CX P w K mg base qual q1 q2 bd cc c f A outer s0 H0 E0) [] σ H s) (e0 : σ[0]? = some (some (.ref e))) (hsub : PySem.W.mroIn K C (.ref D) = some true) (he : H e = some (exo e C d))
    (h : ∀ so s1, Inv (supX CX P w K mg base qual q1 q2 bd cc c f A outer s0 H0 E0) [] σ H s1 → s1.heap.get? so = some (PySem.W.ks_superObj D e C) → H so = none → Q (.ref so) s1) :
    _root_.PySem.wpAt (model P w) (A.deeper (envF (supNF qual q1 q2 bd cc c) f s0.heap.objs.size)) (.func body (envF (supNF qual q1 q2 bd cc c) f s0.heap.objs.size)) (attributeBase (.Call (.Name "super" p0) [] [] p1) "__init__" (envF (supNF qual q1 q2 bd cc c) f s0.heap.objs.size) whole) Q (supX CX P w K mg base qual q1 q2 bd cc c f A outer s0 H0 E0).xe s := by
  obtain ⟨oc, od, doc, pm, an, ctv, sl, lk⟩ := S.lk
  obtain ⟨cc1, cc2, cc3, lkc⟩ := S.cell
  obtain ⟨c1, c2, vs, c3, tf, lkf, hvs⟩ := S.file
  have KX : K.In s.heap := I.kIn
  obtain ⟨oD, cd, hD, hDt⟩ := clsIn_at KX S.clsD
  obtain ⟨t1, hx⟩ := exo_at I.hok he
  have hks : (envF (supNF qual q1 q2 bd cc c) f s0.heap.objs.size).kindOf "super" = some .globalImplicit := rfl
  have hkc : (envF (supNF qual q1 q2 bd cc c) f s0.heap.objs.size).kindOf "__class__" = some .free := rfl
  have hka : (envF (supNF qual q1 q2 bd cc c) f s0.heap.objs.size).kindOf "self" = some .local := rfl
  obtain ⟨m, hn, hl⟩ := I.loc
  obtain ⟨u, ru, lu⟩ := hl 0 "self" (.ref e) rfl e0 (.inl hka)
  obtain rfl : u = Value.ref e := ru
  have hself : m "self" = some (.ref e) := by
    rcases lu with ⟨_, z⟩ | ⟨z, _⟩
    · exact z
    · rcases z with z | z
      · exact absurd (hka.symm.trans z) (by decide)
      · exact absurd (hka.symm.trans z) (by decide)
  refine ks_wpAt_super_base (env := envF (supNF qual q1 q2 bd cc c) f s0.heap.objs.size) hks hkc (by decide) rfl (KX _ _ lk) rfl rfl rfl (KX _ _ lkf) rfl hvs (by simp) S.top ?_
  obtain ⟨mb, h1, h2⟩ := I.mod.blt
  refine PySem.W.ks_loadName_global rfl hks (Calls.loadGlobal_builtin (env := envF (supNF qual q1 q2 bd cc c) f s0.heap.objs.size) (by exact I.mod.glob.keeps I.bk) S.mgs (by exact h1.keeps I.bk) ((h2 _ (by decide)).trans (by decide +kernel)) ⟨rfl, ?_⟩)
  refine wpAny_loadName_free rfl hkc (c := cc) rfl ⟨_, KX _ _ lkc, rfl⟩ ?_
  refine wpAny_loadName_local rfl hka hn hself ?_
  refine ks_wpAny_isType_cls hD hDt ⟨rfl, ?_⟩
  have hsz : H s.heap.objs.size = none := I.hok.fresh (Nat.le_refl _)
  obtain ⟨hh, g, dr, t, os⟩ := s
  refine ks_wpAny_call_super hD hDt hx rfl (fun c z => nomatch z) (PySem.W.looks_mroIn KX hsub) (fun h' e' k => ?_)
  exact h _ _ (I.kept (t' := t) k) e' hsz

/-- what the class C of the exception says of the class D -/
structure SupC (K : PySem.W.Frag) (C D : Addr) (g : Value) : Prop where
  op : PySem.W.nsIn K cStatics "thirdparty.any" = some none
  sub : PySem.W.mroIn K C (.ref D) = some true
  tgt : PySem.W.ks_superIn K C D "__init__" = some (some g)
theorem exo_inst {e C : Addr} {d : Option Addr} {H : Hp} {P : Program} {w : World} {h : Heap} (hok : HOk P w H h) (he : H e = some (exo e C d)) {K : PySem.W.Frag} (X : K.In h) {cd : ClassData} (hc : PySem.W.clsIn K C = some cd) : e ≠ C := by
  rintro rfl
  obtain ⟨t1, q⟩ := exo_at hok he
  unfold PySem.W.clsIn at hc
  split at hc
  · rename_i c d cd' sl ho
    have e := X _ _ ho
    rw [q] at e
    cases e
  · cases hc
/-- the arguments, the bound method pinned -/
theorem sup_args {X : Cx} {σ : L2.St} {H : Hp} {s : Shared} {b : Addr} {o : Obj} {v : V} {p3 p4 : Pos} (hN : X.N = Nsup) (hv : X.env.scope.names.lookup ("place" : Str) = some .local)
    (I : Inv X [(b, o)] σ H s) (e1 : σ[1]? = some (some v)) :
    wpAny (model X.prog X.w) X.A (spliced (backTo p4 (starEach [.Name "place" p3] X.env))) (fun us s1 => ∃ u, us = [u] ∧ RelV v u ∧ Inv X [(b, o)] σ H s1) X.xe s := by
  have pv : PE X (.Name "place" p3) (tVar 1) := pe_var (by rw [hN]; rfl) (.inl hv)
  have pa : PA X [.Name "place" p3] (tCons (tVar 1) tNil) := pa_cons pv pa_nil
  refine thn (pa.run p4 [(b, o)] s σ H (fun vs H1 => vs = [v] ∧ H1 = H) I ⟨v, e1, rfl, rfl⟩) fun us s1 ⟨vs, H1, I1, r1, q1, q2⟩ => ?_
  subst q1 q2
  cases r1 with
  | cons ru rn =>
    cases rn
    exact ⟨_, rfl, ru, I1⟩
section
variable {σ : L2.St} {H : Hp} {s : Shared} {e C : Addr} {d : Option Addr} {v : V} {body : List Stmt} {p0 p1 p2 p3 p4 p5 : Pos} {Q : Shared → Prop}
/-- the statement super().__init__(place), the next class one of ours -/
theorem sup_own (S : SupF K P mg qual q1 q2 bd f D cc c) (hco : CallOk qual q1 q2 bd cc c f p0 p1 p2 p3 p4) {g : Addr} {fd : FuncData} {k : Nat} {sp : Sp} (SC : SupC K C D (.ref g)) (tg : PySem.W.typeIn K (.ref g) = some (.type "function")) (fg : PySem.W.fnIn K g = true)
    (G : FnOk P w K mg base CX0 k g fd (["self", "place"] : List Str) sp) (hr : Room k (A.deeper (envF (supNF qual q1 q2 bd cc c) f s0.heap.objs.size))) (hb : Binds K fd (["self", "place"] : List Str) [])
    (I : Inv (supX CX P w K mg base qual q1 q2 bd cc c f A outer s0 H0 E0) [] σ H s) (e0 : σ[0]? = some (some (.ref e))) (e1 : σ[1]? = some (some v)) (he : H e = some (exo e C d))
    (h : sp [.ref e, v] H (fun _ H' => ∀ s1, Inv (supX CX P w K mg base qual q1 q2 bd cc c f A outer s0 H0 E0) [] σ H' s1 → Q s1) (fun _ _ _ => False)) :
    _root_.PySem.wpAt (model P w) (A.deeper (envF (supNF qual q1 q2 bd cc c) f s0.heap.objs.size)) (.func body (envF (supNF qual q1 q2 bd cc c) f s0.heap.objs.size)) (exec (.Expr (supCall p0 p1 p2 p3 p4) p5) (envF (supNF qual q1 q2 bd cc c) f s0.heap.objs.size))
      (fun fl s' => fl = .next ∧ Q s') (supX CX P w K mg base qual q1 q2 bd cc c f A outer s0 H0 E0).xe s := by
  obtain ⟨pl, hpl⟩ := hco s0.heap.objs.size
  refine ks_wpAt_Expr_any (ks_wpAt_MethodCall (sup_node S I e0 SC.sub he fun so s1 I1 hso hn => ?_) hpl)
  have KX : K.In s1.heap := I1.kIn
  obtain ⟨hh, gg, dr, t, os⟩ := s1
  obtain ⟨of, hof, hofc⟩ : ∃ of, hh.get? g = some of ∧ of.cls = .type "function" := by
    have ht' : (K.lookup g).map (·.cls) = some (.type "function") := tg
    cases z : K.lookup g with
    | none => rw [z] at ht'; cases ht'
    | some of => rw [z] at ht'; exact ⟨of, KX _ _ z, Option.some.inj ht'⟩
  cases hc : PySem.W.clsIn K C with
  | none =>
    have z := SC.tgt
    unfold PySem.W.ks_superIn at z
    rw [hc] at z
    cases z
  | some cd =>
    have hm := SC.tgt
    unfold PySem.W.ks_superIn at hm
    rw [hc] at hm
    refine ks_wpAny_getMethod_super hso (PySem.W.looks_opaque KX SC.op) (l₀ := cd.mro) (fun A Q E s k q => wpAny_bind ((PySem.W.looks_clsIn KX hc) A _ E s k (wpAny_pure q))) rfl KX hm hof hofc (exo_inst I1.hok he KX hc) (by decide) ?_
    have hget : (hh.push (PySem.W.methodObj (.ref g) (.ref e))).get? hh.objs.size = some (PySem.W.methodObj (.ref g) (.ref e)) := Heap.get?_push_at rfl rfl
    have nb : H hh.objs.size = none := I1.hok.fresh (Nat.le_refl _)
    have I2 : Inv (supX CX P w K mg base qual q1 q2 bd cc c f A outer s0 H0 E0) [] σ H ⟨hh.push (PySem.W.methodObj (.ref g) (.ref e)), gg, dr, t + 1, os⟩ := I1.kept (t' := t + 1) fun _ _ z => Heap.get?_push_of_some _ z
    have I3 := inv_pin I2 hget nb (Ne.symm (Nat.ne_of_lt I1.lt)) (I1.nofs (Nat.le_refl _)) (fun c z => nomatch z)
    have gb : base.get? hh.objs.size = none := by
      cases z : base.get? hh.objs.size with
      | none => rfl
      | some o => exact absurd (Heap.lt_size ((I1.bs _ o z).1)) (Nat.lt_irrefl _)
    refine PySem.W.callWith_M (h₀ := base) (L := hh.objs.size + 1) (news := [(hh.objs.size, PySem.W.methodObj (.ref g) (.ref e))]) I1.mod.kin (fun p hp => ?_) (List.mem_cons_self ..) fg (thn (sup_args (X := supX CX P w K mg base qual q1 q2 bd cc c f A outer s0 H0 E0) rfl rfl I3 e1) fun us s2 ⟨u, eu, ru, I4⟩ => ?_)
    · obtain rfl : p = (hh.objs.size, PySem.W.methodObj (.ref g) (.ref e)) := by simpa using hp
      exact ⟨hget, Nat.ne_of_lt (Nat.lt_succ_self _), gb⟩
    · subst eu
      obtain ⟨hb2, _⟩ := I4.pin (hh.objs.size, PySem.W.methodObj (.ref g) (.ref e)) (List.mem_append_right _ (List.mem_cons_self ..))
      refine ⟨⟨hb2, I4.kIn⟩, ?_⟩
      show wpAny _ _ (call (.ref hh.objs.size) [u]) _ _ _
      have I5 := inv_unpin I4
      have bb := hb s2 [.ref e, u] I5.kIn rfl
      rw [List.append_nil] at bb
      refine wpAny_call (ks_codeAny_call_bound hb2 (codeAny_mono (G.run _ _ s2 H ⟨[.ref e, u], []⟩ [.ref e, u] [.ref e, v] _ _ hr I5.env0 bb (.cons rfl (.cons ru .nil)) h) fun r s' hq => ?_))
      cases r with
      | error er => exact hq.elim
      | ok fl =>
        cases fl with
        | ret x =>
          obtain ⟨v2, H', hos, bare, un, hok, rv, q⟩ := hq
          obtain ⟨h3, g3, d3, t3, os3⟩ := s'
          obtain rfl : os3 = s2.os := hos
          exact ⟨rfl, q _ (I5.call (h' := h3) (g' := g3) (d' := d3) (t' := t3) (ch := []) un hok bare (fun b z => absurd z (by simp)))⟩
        | next => exact False.elim hq
        | brk => exact False.elim hq
        | cont => exact False.elim hq
/-- .. the next class ValueError -/
theorem sup_base (S : SupF K P mg qual q1 q2 bd f D cc c) (hco : CallOk qual q1 q2 bd cc c f p0 p1 p2 p3 p4) (SC : SupC K C D (.builtin "ValueError.__init__")) (T : OexC K C) (hB : PySem.W.subIn K (.ref C) (.type "ValueError") = some true)
    (I : Inv (supX CX P w K mg base qual q1 q2 bd cc c f A outer s0 H0 E0) [] σ H s) (e0 : σ[0]? = some (some (.ref e))) (e1 : σ[1]? = some (some v)) (he : H e = some (exo e C none))
    (h : ∀ s1, Inv (supX CX P w K mg base qual q1 q2 bd cc c f A outer s0 H0 E0) [] σ H s1 → Q s1) :
    _root_.PySem.wpAt (model P w) (A.deeper (envF (supNF qual q1 q2 bd cc c) f s0.heap.objs.size)) (.func body (envF (supNF qual q1 q2 bd cc c) f s0.heap.objs.size)) (exec (.Expr (supCall p0 p1 p2 p3 p4) p5) (envF (supNF qual q1 q2 bd cc c) f s0.heap.objs.size))
      (fun fl s' => fl = .next ∧ Q s') (supX CX P w K mg base qual q1 q2 bd cc c f A outer s0 H0 E0).xe s := by
  obtain ⟨pl, hpl⟩ := hco s0.heap.objs.size
  refine ks_wpAt_Expr_any (ks_wpAt_MethodCall (sup_node S I e0 SC.sub he fun so s1 I1 hso hn => ?_) hpl)
  have KX : K.In s1.heap := I1.kIn
  obtain ⟨t1, hx⟩ := exo_at I1.hok he
  obtain ⟨hh, gg, dr, t, os⟩ := s1
  cases hc : PySem.W.clsIn K C with
  | none =>
    have z := SC.tgt
    unfold PySem.W.ks_superIn at z
    rw [hc] at z
    cases z
  | some cd =>
    have hm := SC.tgt
    unfold PySem.W.ks_superIn at hm
    rw [hc] at hm
    have hI : PySem.W.Looks (model P w) hh (isInstance (.ref e) (.type "ValueError")) true := (PySem.W.InstAt.type (M := model P w) (od := none) ⟨hx, rfl, rfl, trivial⟩).andThen (PySem.W.looks_subIn KX hB)
    refine PySem.W.kxs_getMethod PySem.W.kxs_ValueError hso (PySem.W.looks_opaque KX SC.op) (l₀ := cd.mro) (fun A Q E s k q => wpAny_bind ((PySem.W.looks_clsIn KX hc) A _ E s k (wpAny_pure q))) rfl KX hm hI (exo_inst I1.hok he KX hc) (by decide) ?_
    have hget : (hh.push (PySem.W.kxs_mw "ValueError.__init__" e)).get? hh.objs.size = some (PySem.W.kxs_mw "ValueError.__init__" e) := Heap.get?_push_at rfl rfl
    have nb : H hh.objs.size = none := I1.hok.fresh (Nat.le_refl _)
    have I2 : Inv (supX CX P w K mg base qual q1 q2 bd cc c f A outer s0 H0 E0) [] σ H ⟨hh.push (PySem.W.kxs_mw "ValueError.__init__" e), gg, dr, t + 1, os⟩ := I1.kept (t' := t + 1) fun _ _ z => Heap.get?_push_of_some _ z
    have I3 := inv_pin I2 hget nb (Ne.symm (Nat.ne_of_lt I1.lt)) (I1.nofs (Nat.le_refl _)) (fun c z => nomatch z)
    refine PySem.W.kxs_callWith (i := "ValueError.__init__") (x := e) rfl (PySem.Calls.evalArgs_plain (thn (sup_args (X := supX CX P w K mg base qual q1 q2 bd cc c f A outer s0 H0 E0) rfl rfl I3 e1) fun us s2 ⟨u, eu, ru, I4⟩ => ?_))
    subst eu
    obtain ⟨hb2, _⟩ := I4.pin (hh.objs.size, PySem.W.kxs_mw "ValueError.__init__" e) (List.mem_append_right _ (List.mem_cons_self ..))
    refine ⟨hb2, ?_⟩
    have I5 := inv_unpin I4
    show wpAny _ _ (call (.ref hh.objs.size) [u]) _ _ _
    obtain ⟨nm, q, N, bs, bm, sn, sub, ab, col, dd, k0, k1, k2, k3, k5, hC, hbm⟩ := T.cls
    obtain ⟨t2, hx2⟩ := exo_at I5.hok he
    obtain ⟨h2, g2, d2, tk2, os2⟩ := s2
    refine wpAny_call (codeAny_of_tree ?_)
    show wpAny _ (Around.in1 _) (callAny (.ref hh.objs.size) ⟨[u], []⟩) _ _ _
    simp only [callAny]
    refine wpAny_bind (wpAny_load hb2 ?_)
    simp only [PySem.W.kxs_mw, show (Value.type "method-wrapper" == Value.type "method" || Value.type "method-wrapper" == Value.type "builtin_function_or_method" || Value.type "method-wrapper" == Value.type "method-wrapper") = true by decide, if_true]
    refine PySem.W.KFB.if_so (by decide) ?_
    refine wpAny_bind (PySem.W.check_bound_init F.excBase_ValueError.toExcCallFacts (I5.kIn _ _ hC) hx2 rfl ?_)
    refine wpAny_bind (wpAny_pure (wpAny_pure ?_))
    refine ⟨PySem.plainId_quiet F.excBase_ValueError.init.plain _, codeAny_builtin F.excBase_ValueError.initEntry ?_⟩
    refine PySem.W.exc_init_tree (cls := .ref C) (t0 := t2) (dv := none) (c2 := .none) (c3 := .none) (b4 := .bool false) hx2 (by show 1 ≤ sizeLine; rw [sizeLine_eq]; decide) (fun h' k he' ht => ?_)
    have J := I5.write (t' := tk2) (x := e) (e := e) (o := exo e C none) (by rw [he]; exact True.intro) (.inl rfl) k ⟨_, he'⟩ (exo_ok he')
    have eu : upd H e (exo e C none) = H := by
      funext b
      by_cases hb : b = e
      · rw [hb, upd_same, he]
      · rw [upd_ne hb]
    rw [eu] at J
    exact ⟨by first | trivial | rfl, h _ J⟩
end
end
end VE
set_option Elab.async false
set_option maxRecDepth 100000
set_option maxHeartbeats 4000000
set_option linter.all false
set_option autoImplicit false
namespace VE
open PySem PySem.Spec PyProof.Rows L2 NdefX

section
variable {P : Program} {w : World} {K : PySem.W.Frag} {mg : Str → Option Value} {base : Heap} {qual : Str} {q1 q2 : Pos} {bd rest : List Stmt} {f D cc c : Addr} {p0 p1 p2 p3 p4 p5 : Pos}
abbrev supPs : List Str := ["self", "place"]
abbrev supSt (D : Addr) (vs : List V) : L2.St := startF Nsup vs [some (.ref D)]
theorem supScope : NScope Nsup supPs (["__class__"] : List Str) supSc := nscope_by (by decide +kernel)
theorem sup_fn {sp : Sp} {k : Nat} (S : SupF K P mg qual q1 q2 bd f D cc c) {fd : FuncData} (hfd : ∃ oc od doc pm an ctv sl, fd = PySem.W.fnX "__init__" qual (supAr q1 q2) bd supSc [("__class__", cc)] .none .none doc pm an (.ref c) ctv ∧ K.lookup f = some ⟨oc, od, .func fd, sl⟩)
    (hbd : bd = .Expr (supCall p0 p1 p2 p3 p4) p5 :: rest) (len : ∀ vs H Q E, sp vs H Q E → vs.length = 2)
    (hbody : ∀ (A : Around) (outer : List Env) (s0 : Shared) (H0 : Hp) (vs : List V) (Q : VK) (E0 : XK), Room k (A.deeper (envF (supNF qual q1 q2 bd cc c) f s0.heap.objs.size)) → sp vs H0 Q E0 →
      ∃ t, PSs (supX CX0 P w K mg base qual q1 q2 bd cc c f A outer s0 H0 E0) rest t ∧ ∀ s, Inv (supX CX0 P w K mg base qual q1 q2 bd cc c f A outer s0 H0 E0) [] (supSt D vs) H0 s →
        _root_.PySem.wpAt (model P w) (A.deeper (envF (supNF qual q1 q2 bd cc c) f s0.heap.objs.size)) (.func bd (envF (supNF qual q1 q2 bd cc c) f s0.heap.objs.size)) (exec (.Expr (supCall p0 p1 p2 p3 p4) p5) (envF (supNF qual q1 q2 bd cc c) f s0.heap.objs.size))
          (fun fl s' => fl = .next ∧ ∃ H1, Inv (supX CX0 P w K mg base qual q1 q2 bd cc c f A outer s0 H0 E0) [] (supSt D vs) H1 s' ∧ t { nx := fun _ H' => Q .non H', rt := Q } (supSt D vs) H1)
          (supX CX0 P w K mg base qual q1 q2 bd cc c f A outer s0 H0 E0).xe s) :
    FnOk P w K mg base CX0 (k + 1) f fd supPs sp := by
  subst hbd
  refine ⟨len, fun A outer s H args us vs Q E hr e0 hb r hsp => ?_⟩
  have hl := len _ _ _ _ hsp
  have KX : K.In s.heap := e0.mod.kin.keeps fun b o e => (e0.bs b o e).1
  have lim : s.heap.NoLimit := e0.mod.nolimit.keeps fun b o e => (e0.bs b o e).1
  obtain ⟨oc, od, doc, pm, an, ctv, sl, rfl, lk⟩ := hfd
  obtain ⟨k1, k2, k3, lkc⟩ := S.cell
  refine codeAny_call_function hr.depth (KX _ _ lk) rfl rfl rfl rfl (PySem.W.codeRec_of KX S.code) (hb _ _ _ _ ?_)
  refine wpAny_newFunctionEnv supScope.nocell (fun ⟨n, _⟩ hy => supScope.par n (List.of_mem_zip hy).1) (fun h₁ hns hsb => ⟨lim.fresh _ hsb, ?_⟩) rfl
  show codeAny _ _ (.func _ (envF (supNF qual q1 q2 rest cc c) f s.heap.objs.size)) _ _
  have kp : ∀ b o, s.heap.get? b = some o → h₁.get? b = some o := fun b o e => hsb.extBut b o (Nat.ne_of_lt (Heap.lt_size e)) (Heap.get?_push_of_some _ e)
  obtain ⟨t, ht, hq⟩ := hbody A outer s H vs Q E (hr.deeper _) hsp
  have cx : ∀ x c', ([(("__class__" : Str), cc)] : List (Str × Addr)).lookup x = some c' → x = "__class__" ∧ c' = cc := fun x c' e => by
    by_cases hx : x = ("__class__" : Str)
    · subst hx
      refine ⟨rfl, ?_⟩
      simp [List.lookup] at e
      exact e.symm
    · have : (x == ("__class__" : Str)) = false := by simpa using hx
      simp [List.lookup, this] at e
  have hcell : s.heap.IsCell cc (some (.ref D)) := ⟨_, KX _ _ lkc, rfl⟩
  have C : CellsAt (supNF qual q1 q2 rest cc c).cl (["__class__"] : List Str) [some (.ref D)] s.heap H := by
    refine ⟨rfl, fun y c' e => ?_, fun x y c' e1 e2 => (cx x c' e1).1.trans (cx y c' e2).1.symm, fun i y e => ?_⟩
    · obtain ⟨_, rfl⟩ := cx y c' e
      exact ⟨(e0.bs _ _ (e0.mod.kin _ _ lkc)).2, _, hcell⟩
    · cases i with
      | zero =>
        simp at e
        subst e
        exact ⟨cc, rfl, fun v hv => by
          simp at hv
          subst hv
          exact ⟨.ref D, rfl, hcell⟩⟩
      | succ i => simp at e
  have I : Inv (supX CX0 P w K mg base qual q1 q2 _ cc c f A outer s H E) [] (supSt D vs) H { s with heap := h₁, toks := s.toks + (supPs.zip us).length } := inv_startN supScope hr.hd e0 hl r C hns kp
  refine ks_codeAny_funcAt ?_
  have fin : ∀ {s' : Shared} {σ' : L2.St} {H' : Hp} {v : V} {u : Value}, Inv (supX CX0 P w K mg base qual q1 q2 (.Expr (supCall p0 p1 p2 p3 p4) p5 :: rest) cc c f A outer s H E) [] σ' H' s' → L2.RelV v u → Q v H' → CE outer P w H s Q u s' :=
    fun {s' σ' H' v u} J rv q => ⟨v, H', J.os, J.bare, J.base, J.hok, rv, q⟩
  refine ks_wpAt_execs_cons (ks_wpAt_mono (hq _ I) (fun fl s' hs => ?_) fun e s' hs => hs)
  obtain ⟨rfl, H1, I1, q⟩ := hs
  refine wpAt_of_wpAny (wpAny_mono (ht.run [] s' _ H1 _ I1 q) (fun fl s' hs => ?_) fun e s' hs => hs)
  cases fl with
  | ret u =>
    obtain ⟨v, σ', H', J, rv, q⟩ := hs
    exact fin J rv q
  | next =>
    obtain ⟨σ', H', J, q⟩ := hs
    exact fin (v := V.non) (u := Value.none) J rfl q
  | brk =>
    obtain ⟨_, _, _, q⟩ := hs
    exact False.elim q
  | cont =>
    obtain ⟨_, _, _, q⟩ := hs
    exact False.elim q

/-- behind an __init__: the exception's dict holds fs; nothing else is changed -/
structure ExEnd (H H' : Hp) (e C dx : Addr) (fs : List (Str × V)) : Prop where
  nd : H dx = none
  ne : dx ≠ e
  ex : H' e = some (exo e C (some dx))
  dc : H' dx = some (exd dx fs)
  rest : ∀ b, b ≠ e → b ≠ dx → H' b = H b
/-- what the class C of the exception says of names and makers -/
structure OwnC (K : PySem.W.Frag) (C : Addr) : Prop where
  ox : OexC K C
  ve : PySem.W.subIn K (.ref C) (.type "ValueError") = some true
  np : PySem.W.findIn K (.ref C) "place" = some none
  nn : PySem.W.findIn K (.ref C) "name" = some none
/-- CityError.__init__ -/
def spB (K : PySem.W.Frag) (D : Addr) (nm : Str) : Sp := fun vs H Q _ => ∃ e C p, vs = [.ref e, p] ∧ OwnC K C ∧ SupC K C D (.builtin "ValueError.__init__") ∧ H e = some (exo e C none) ∧
  ∀ dx H', ExEnd H H' e C dx [(("name" : Str), .str nm), (("place" : Str), p)] → Q .non H'
theorem fn_base {k : Nat} {fd : FuncData} {nm : Str} {r1 r2 r3 r4 r5 r6 r7 r8 : Pos} {j : Nat} (S : SupF K P mg qual q1 q2 bd f D cc c) (hco : CallOk qual q1 q2 bd cc c f p0 p1 p2 p3 p4)
    (hfd : ∃ oc od doc pm an ctv sl, fd = PySem.W.fnX "__init__" qual (supAr q1 q2) bd supSc [("__class__", cc)] .none .none doc pm an (.ref c) ctv ∧ K.lookup f = some ⟨oc, od, .func fd, sl⟩)
    (hbd : bd = [.Expr (supCall p0 p1 p2 p3 p4) p5, .Assign [.Attribute (.Name "self" r1) "place" r2] (.Name "place" r3) r4, .Assign [.Attribute (.Name "self" r5) "name" r6] (.Constant (.str nm) j r7) r8]) :
    FnOk P w K mg base CX0 (k + 1) f fd supPs (spB K D nm) := by
  subst hbd
  refine sup_fn S hfd rfl (fun vs H Q E ⟨e, C, p, h, _⟩ => by rw [h]; rfl) (fun A outer s0 H0 vs Q E0 hr hsp => ?_)
  obtain ⟨e, C, p, rfl, O, SC, he, q⟩ := hsp
  refine ⟨_, pss_cons (ps_ost (pe_var (i := 0) rfl (.inl rfl)) (pe_var (i := 1) rfl (.inl rfl))) (pss_one (ps_ost (pe_var (i := 0) rfl (.inl rfl)) pe_str)), fun s I => ?_⟩
  refine sup_base S hco SC O.ox O.ve I rfl rfl he fun s1 I1 => ⟨H0, I1, ?_⟩
  refine ⟨p, rfl, .ref e, rfl, e, C, rfl, O.ox, O.np, .inl ⟨he, fun dx nd ne => ?_⟩⟩
  refine ⟨.ref e, rfl, e, C, rfl, O.ox, O.nn, .inr ⟨dx, _, upd_same, by rw [upd_ne ne, upd_same], (by show 1 ≤ 900; decide), ?_⟩⟩
  exact q dx _ ⟨nd, ne, by rw [upd_ne (Ne.symm ne), upd_same], upd_same, fun b h1 h2 => by rw [upd_ne h2, upd_ne h1, upd_ne h2]⟩
/-- an __init__ of a class over CityError -/
def spO (K : PySem.W.Frag) (D : Addr) (g B : Addr) (bn nm : Str) : Sp := fun vs H Q _ => ∃ e C p, vs = [.ref e, p] ∧ OwnC K C ∧ SupC K C D (.ref g) ∧ SupC K C B (.builtin "ValueError.__init__") ∧ H e = some (exo e C none) ∧
  ∀ dx H', ExEnd H H' e C dx [(("name" : Str), .str nm), (("name" : Str), .str bn), (("place" : Str), p)] → Q .non H'
theorem fn_own {k : Nat} {fd fdg : FuncData} {nm bn : Str} {g B : Addr} {r5 r6 r7 r8 : Pos} {j : Nat} (S : SupF K P mg qual q1 q2 bd f D cc c) (hco : CallOk qual q1 q2 bd cc c f p0 p1 p2 p3 p4)
    (hfd : ∃ oc od doc pm an ctv sl, fd = PySem.W.fnX "__init__" qual (supAr q1 q2) bd supSc [("__class__", cc)] .none .none doc pm an (.ref c) ctv ∧ K.lookup f = some ⟨oc, od, .func fd, sl⟩)
    (G : FnOk P w K mg base CX0 k g fdg supPs (spB K B bn)) (hb : Binds K fdg supPs []) (tg : PySem.W.typeIn K (.ref g) = some (.type "function")) (fg : PySem.W.fnIn K g = true)
    (hbd : bd = [.Expr (supCall p0 p1 p2 p3 p4) p5, .Assign [.Attribute (.Name "self" r5) "name" r6] (.Constant (.str nm) j r7) r8]) :
    FnOk P w K mg base CX0 (k + 1) f fd supPs (spO K D g B bn nm) := by
  subst hbd
  refine sup_fn S hfd rfl (fun vs H Q E ⟨e, C, p, h, _⟩ => by rw [h]; rfl) (fun A outer s0 H0 vs Q E0 hr hsp => ?_)
  obtain ⟨e, C, p, rfl, O, SC, SB, he, q⟩ := hsp
  refine ⟨_, pss_one (ps_ost (pe_var (i := 0) rfl (.inl rfl)) pe_str), fun s I => ?_⟩
  refine sup_own S hco SC tg fg G hr hb I rfl rfl he ?_
  refine ⟨e, C, p, rfl, O, SB, he, fun dx H' z s1 I1 => ⟨H', I1, ?_⟩⟩
  refine ⟨.ref e, rfl, e, C, rfl, O.ox, O.nn, .inr ⟨dx, _, z.ex, z.dc, (by show 2 ≤ 900; decide), ?_⟩⟩
  exact q dx _ ⟨z.nd, z.ne, by rw [upd_ne (Ne.symm z.ne)]; exact z.ex, upd_same, fun b h1 h2 => by rw [upd_ne h2]; exact z.rest b h1 h2⟩
end
end VE
set_option Elab.async false
set_option maxRecDepth 100000
set_option maxHeartbeats 4000000
set_option linter.all false
set_option autoImplicit false
/-! Values without addresses, errors and instances too: what an expression gives, as a plain function. -/
namespace VM
open PySem L2

/-- a datum: nothing, bools, ints, texts; a list, a tuple, an instance (class number, field numbers, values), a dict, a set (of tuples or not) that nobody changes any more; an owned object by its number; a list that is locked; a def or class by its number -/
inductive D where
  | non | bl (b : Bool) | int (i : Int) | str (s : Str) | lst (ds : List D) | tup (ds : List D) | own (l : Nat) | lck (ds : List D) | ins (c : Nat) (ns : List Nat) (vs : List D) | dct (t : Bool) (ks vs : List D) | set (t : Bool) (ds : List D) | fn (n : Nat)
/-- an owned object -/
inductive SO where
  | lst (ds : List D) | ins (c : Nat) (ns : List Nat) (vs : List D) | dct (t : Bool) (ks vs : List D) | set (t : Bool) (ds : List D)
/-- an error: its class, its place -/
structure Exn where
  c : Nat
  p : D
abbrev Sto := List SO
abbrev Rho := List (Option D)
/-- the owned objects' places; those of lists that are just being made -/
structure Ws where
  own : List Addr
  hid : List Addr
/-- the written part: its objects, the defs and classes by number, the fields' names, the errors' names -/
structure Kt where
  K : PySem.W.Frag
  ad : Nat → Addr
  fld : List Str
  nm : Nat → Str
  ok : fld.Nodup
  P : Program
  w : World
def Kt.f (T : Kt) (n : Nat) : Str := T.fld.getD n ""
/-- built-in types that are asked for -/
inductive TN where
  | int | bool | str | list | tuple | dict | set
def TN.nm : TN → String
  | .int => "int" | .bool => "bool" | .str => "str" | .list => "list" | .tuple => "tuple" | .dict => "dict" | .set => "set"
/-- what the written part says of a class of instances -/
structure InsC (K : PySem.W.Frag) (C : Addr) : Prop where
  cl : Cls K C
  ha : PySem.W.findIn K (.ref C) "__class__" = some (some (.builtin "object.__class__"))
  hn : PySem.W.specialIn K (.builtin "object.__class__") "__get__" = some (some (.builtin "getset_descriptor.__get__"))
  ht : PySem.W.takesIn K (.builtin "object.__class__") = some true
  hm : PySem.W.mroIn K C (.type "object") = some true
  nb : ∀ t : TN, PySem.W.kitOne K (.ref C) (.type t.nm) = some false
def InsOk (T : Kt) (c : Nat) (ns : List Nat) : Prop := InsC T.K (T.ad c) ∧ ∀ n ∈ ns, n < T.fld.length ∧ NoAttr T.K (T.ad c) (T.f n)
def keyD : Key → D
  | .inl i => .int i
  | .inr x => .str x
def setOk (S : Int → Bool) (n : Nat) (ds : List D) : Prop := ∃ is : List Int, ds = is.map D.int ∧ is.Nodup ∧ n = is.length ∧ S = fun i => decide (i ∈ is)
mutual
def Rep (T : Kt) (ws : Ws) (H : Hp) : D → V → Prop
  | .non, v => v = .non
  | .bl b, v => v = .bl b
  | .int i, v => v = .int i
  | .str x, v => v = .str x
  | .lst ds, v => ∃ a xs, v = .ref a ∧ H a = some (.lst xs) ∧ Reps T ws H ds xs
  | .tup ds, v => ∃ a xs, v = .ref a ∧ SqT T.K H a xs ∧ Reps T ws H ds xs
  | .own l, v => ∃ a, ws.own[l]? = some a ∧ v = .ref a
  | .lck ds, v => ∃ a xs, v = .ref a ∧ SqL T.K H a xs ∧ Reps T ws H ds xs
  | .ins c ns vs, v => ∃ a dx fs, v = .ref a ∧ H a = some (.ins (T.ad c) dx fs) ∧ InsOk T c ns ∧ fs.map (·.1) = ns.map T.f ∧ Reps T ws H vs (fs.map (·.2))
  | .dct t ks vs, v => ∃ a, v = .ref a ∧ ((t = false ∧ ∃ kvs : List (Key × V), H a = some (.dK kvs) ∧ ks = kvs.map (fun p => keyD p.1) ∧ Reps T ws H vs (kvs.map (·.2))) ∨
      (t = true ∧ ∃ kvs : List (List Key × V), H a = some (.dT kvs) ∧ ks = kvs.map (fun p => .tup (p.1.map keyD)) ∧ Reps T ws H vs (kvs.map (·.2))))
  | .set t ds, v => ∃ a, v = .ref a ∧ ((t = false ∧ ∃ S n, H a = some (SetO T.w a S n) ∧ setOk S n ds) ∨ (t = true ∧ ∃ L : List (Addr × List Int), H a = some (SetTO T.P T.w a L) ∧ ds = L.map (fun p => .tup (p.2.map D.int)) ∧ ∀ p ∈ L, SqT T.K H p.1 (p.2.map V.int)))
  | .fn n, v => v = .ref (T.ad n)
def Reps (T : Kt) (ws : Ws) (H : Hp) : List D → List V → Prop
  | [], vs => vs = []
  | d :: ds, vs => ∃ v r, vs = v :: r ∧ Rep T ws H d v ∧ Reps T ws H ds r
end

/-- the heap without the owned objects -/
def mask (ws : Ws) (H : Hp) : Hp := fun a => if a ∈ ws.own ∨ a ∈ ws.hid then none else H a
theorem mask_some {ws : Ws} {H : Hp} {a : Addr} {o : HO} (h : mask ws H a = some o) : (a ∉ ws.own ∧ a ∉ ws.hid) ∧ H a = some o := by
  unfold mask at h
  split at h
  · cases h
  · rename_i n
    exact ⟨⟨fun z => n (.inl z), fun z => n (.inr z)⟩, h⟩
theorem mask_of {ws : Ws} {H : Hp} {a : Addr} (h : a ∉ ws.own ∧ a ∉ ws.hid) : mask ws H a = H a := by
  unfold mask
  rw [if_neg (fun z => z.elim h.1 h.2)]
/-- what was frozen stays -/
structure Stp (ws : Ws) (H : Hp) (ws' : Ws) (H' : Hp) : Prop where
  pre : ws.own <+: ws'.own
  hid : ∀ a, a ∈ ws.hid → a ∈ ws'.hid
  fz : ∀ a o, mask ws H a = some o → mask ws' H' a = some o
  hk : ∀ a ∈ ws.hid, H' a = H a
theorem Stp.refl (ws : Ws) (H : Hp) : Stp ws H ws H := ⟨List.prefix_refl _, fun _ z => z, fun _ _ h => h, fun _ _ => rfl⟩
theorem Stp.trans {ws ws1 ws2 : Ws} {H H1 H2 : Hp} (a : Stp ws H ws1 H1) (b : Stp ws1 H1 ws2 H2) : Stp ws H ws2 H2 :=
  ⟨a.pre.trans b.pre, fun c h => b.hid c (a.hid c h), fun c o h => b.fz c o (a.fz c o h), fun c h => (b.hk c (a.hid c h)).trans (a.hk c h)⟩
theorem sqL_mono {K : PySem.W.Frag} {H H' : Hp} (e : ∀ a o, H a = some o → H' a = some o) {a : Addr} {xs : List V} (h : SqL K H a xs) : SqL K H' a xs := by
  rcases h with (h | ⟨o, h⟩) | h
  · exact .inl (.inl (e _ _ h))
  · exact .inl (.inr ⟨o, e _ _ h⟩)
  · exact .inr h
theorem sqT_mono {K : PySem.W.Frag} {H H' : Hp} (e : ∀ a o, H a = some o → H' a = some o) {a : Addr} {xs : List V} (h : SqT K H a xs) : SqT K H' a xs := by
  rcases h with (h | ⟨o, h⟩) | h
  · exact .inl (.inl (e _ _ h))
  · exact .inl (.inr ⟨o, e _ _ h⟩)
  · exact .inr h
theorem sqL_un {K : PySem.W.Frag} {ws : Ws} {H : Hp} {a : Addr} {xs : List V} (h : SqL K (mask ws H) a xs) : SqL K H a xs := sqL_mono (fun _ _ z => (mask_some z).2) h
theorem sqT_un {K : PySem.W.Frag} {ws : Ws} {H : Hp} {a : Addr} {xs : List V} (h : SqT K (mask ws H) a xs) : SqT K H a xs := sqT_mono (fun _ _ z => (mask_some z).2) h
theorem pre_get {ws ws' : List Addr} (p : ws <+: ws') {l : Nat} {a : Addr} (h : ws[l]? = some a) : ws'[l]? = some a := by
  obtain ⟨t, rfl⟩ := p
  have := (List.getElem?_eq_some_iff.mp h).1
  rw [List.getElem?_append_left this]
  exact h
mutual
theorem Rep.mono {T : Kt} {ws ws' : Ws} {H H' : Hp} (p : ws.own <+: ws'.own) (e : ∀ a o, H a = some o → H' a = some o) : ∀ (d : D) (v : V), Rep T ws H d v → Rep T ws' H' d v
  | .non, _, h => h
  | .bl _, _, h => h
  | .int _, _, h => h
  | .str _, _, h => h
  | .lst ds, _, ⟨a, xs, hv, hs, hr⟩ => ⟨a, xs, hv, e _ _ hs, Reps.mono p e ds xs hr⟩
  | .lck ds, _, ⟨a, xs, hv, hs, hr⟩ => ⟨a, xs, hv, sqL_mono e hs, Reps.mono p e ds xs hr⟩
  | .tup ds, _, ⟨a, xs, hv, hs, hr⟩ => ⟨a, xs, hv, sqT_mono e hs, Reps.mono p e ds xs hr⟩
  | .own _, _, ⟨a, h, hv⟩ => ⟨a, pre_get p h, hv⟩
  | .ins c ns ds, _, ⟨a, dx, fs, hv, hs, hb, hn, hr⟩ => ⟨a, dx, fs, hv, e _ _ hs, hb, hn, Reps.mono p e ds _ hr⟩
  | .dct t ks ds, _, ⟨a, hv, h⟩ => ⟨a, hv, h.elim (fun ⟨t, kvs, h1, h2, h3⟩ => .inl ⟨t, kvs, e _ _ h1, h2, Reps.mono p e ds _ h3⟩) fun ⟨t, kvs, h1, h2, h3⟩ => .inr ⟨t, kvs, e _ _ h1, h2, Reps.mono p e ds _ h3⟩⟩
  | .set t ds, _, ⟨a, hv, h⟩ => ⟨a, hv, h.imp (fun ⟨t, S, n, h1, h2⟩ => ⟨t, S, n, e _ _ h1, h2⟩) fun ⟨t, L, h1, h2, h3⟩ => ⟨t, L, e _ _ h1, h2, fun p hp => sqT_mono e (h3 p hp)⟩⟩
  | .fn _, _, h => h
theorem Reps.mono {T : Kt} {ws ws' : Ws} {H H' : Hp} (p : ws.own <+: ws'.own) (e : ∀ a o, H a = some o → H' a = some o) : ∀ (ds : List D) (vs : List V), Reps T ws H ds vs → Reps T ws' H' ds vs
  | [], _, h => h
  | d :: ds, _, ⟨v, r, hv, h1, h2⟩ => ⟨v, r, hv, Rep.mono p e d v h1, Reps.mono p e ds r h2⟩
end
theorem Rep.stp {T : Kt} {ws ws' : Ws} {H H' : Hp} (t : Stp ws H ws' H') {d : D} {v : V} (h : Rep T ws (mask ws H) d v) : Rep T ws' (mask ws' H') d v := Rep.mono t.pre t.fz d v h
theorem Reps.stp {T : Kt} {ws ws' : Ws} {H H' : Hp} (t : Stp ws H ws' H') {d : List D} {v : List V} (h : Reps T ws (mask ws H) d v) : Reps T ws' (mask ws' H') d v := Reps.mono t.pre t.fz d v h
/-- as Stp, but what is hidden may change -/
structure Stq (ws : Ws) (H : Hp) (ws' : Ws) (H' : Hp) : Prop where
  pre : ws.own <+: ws'.own
  hid : ∀ a, a ∈ ws.hid → a ∈ ws'.hid
  fz : ∀ a o, mask ws H a = some o → mask ws' H' a = some o
theorem Stp.q {ws ws' : Ws} {H H' : Hp} (t : Stp ws H ws' H') : Stq ws H ws' H' := ⟨t.pre, t.hid, t.fz⟩
theorem Stq.trans {ws ws1 ws2 : Ws} {H H1 H2 : Hp} (a : Stq ws H ws1 H1) (b : Stq ws1 H1 ws2 H2) : Stq ws H ws2 H2 :=
  ⟨a.pre.trans b.pre, fun c h => b.hid c (a.hid c h), fun c o h => b.fz c o (a.fz c o h)⟩
theorem Rep.stq {T : Kt} {ws ws' : Ws} {H H' : Hp} (t : Stq ws H ws' H') {d : D} {v : V} (h : Rep T ws (mask ws H) d v) : Rep T ws' (mask ws' H') d v := Rep.mono t.pre t.fz d v h
theorem Reps.stq {T : Kt} {ws ws' : Ws} {H H' : Hp} (t : Stq ws H ws' H') {d : List D} {v : List V} (h : Reps T ws (mask ws H) d v) : Reps T ws' (mask ws' H') d v := Reps.mono t.pre t.fz d v h
theorem Reps.length {T : Kt} {ws : Ws} {H : Hp} : ∀ {ds : List D} {vs : List V}, Reps T ws H ds vs → ds.length = vs.length
  | [], _, h => by cases h; rfl
  | d :: ds, _, ⟨v, r, hv, _, h2⟩ => by rw [hv, List.length_cons, List.length_cons, Reps.length h2]
theorem Reps.get {T : Kt} {ws : Ws} {H : Hp} : ∀ {ds : List D} {vs : List V} {i : Nat} {d : D}, Reps T ws H ds vs → ds[i]? = some d → ∃ v, vs[i]? = some v ∧ Rep T ws H d v
  | [], _, _, _, _, e => by simp at e
  | d :: ds, _, 0, _, ⟨v, r, hv, h1, _⟩, e => by simp at e; subst e; exact ⟨v, by rw [hv]; rfl, h1⟩
  | d :: ds, _, i + 1, _, ⟨v, r, hv, _, h2⟩, e => by
    obtain ⟨v', e', h'⟩ := Reps.get (i := i) h2 (by simpa using e)
    exact ⟨v', by rw [hv]; simpa using e', h'⟩
theorem Reps.get' {T : Kt} {ws : Ws} {H : Hp} : ∀ {ds : List D} {vs : List V} {i : Nat} {v : V}, Reps T ws H ds vs → vs[i]? = some v → ∃ d, ds[i]? = some d ∧ Rep T ws H d v
  | [], _, _, _, h, e => by cases h; simp at e
  | d :: ds, _, 0, _, ⟨v, r, hv, h1, _⟩, e => by rw [hv] at e; simp at e; subst e; exact ⟨d, rfl, h1⟩
  | d :: ds, _, i + 1, _, ⟨v, r, hv, _, h2⟩, e => by
    rw [hv] at e
    obtain ⟨v', e', h'⟩ := Reps.get' (i := i) h2 (by simpa using e)
    exact ⟨v', by simpa using e', h'⟩
theorem Reps.append {T : Kt} {ws : Ws} {H : Hp} : ∀ {ds es : List D} {vs us : List V}, Reps T ws H ds vs → Reps T ws H es us → Reps T ws H (ds ++ es) (vs ++ us)
  | [], _, _, _, h, g => by cases h; exact g
  | d :: ds, _, _, _, ⟨v, r, hv, h1, h2⟩, g => by rw [hv]; exact ⟨v, _, rfl, h1, Reps.append h2 g⟩
theorem Reps.take {T : Kt} {ws : Ws} {H : Hp} : ∀ {ds : List D} {vs : List V} (n : Nat), Reps T ws H ds vs → Reps T ws H (ds.take n) (vs.take n)
  | _, _, 0, _ => by rw [List.take_zero, List.take_zero]; rfl
  | [], _, _ + 1, h => by cases h; rfl
  | d :: ds, _, n + 1, ⟨v, r, hv, h1, h2⟩ => by rw [hv]; exact ⟨v, _, rfl, h1, Reps.take n h2⟩
theorem Reps.drop {T : Kt} {ws : Ws} {H : Hp} : ∀ {ds : List D} {vs : List V} (n : Nat), Reps T ws H ds vs → Reps T ws H (ds.drop n) (vs.drop n)
  | _, _, 0, h => h
  | [], _, _ + 1, h => by cases h; rfl
  | d :: ds, _, n + 1, ⟨v, r, hv, h1, h2⟩ => by rw [hv]; exact Reps.drop n h2
theorem Reps.set {T : Kt} {ws : Ws} {H : Hp} {x : D} {u : V} (hx : Rep T ws H x u) : ∀ {ds : List D} {vs : List V} (n : Nat), Reps T ws H ds vs → Reps T ws H (ds.set n x) (vs.set n u)
  | [], _, _, h => by cases h; rfl
  | d :: ds, _, 0, ⟨v, r, hv, h1, h2⟩ => by rw [hv]; exact ⟨u, r, rfl, hx, h2⟩
  | d :: ds, _, n + 1, ⟨v, r, hv, h1, h2⟩ => by rw [hv]; exact ⟨v, _, rfl, h1, Reps.set hx n h2⟩
theorem Reps.replicate {T : Kt} {ws : Ws} {H : Hp} {ds : List D} {vs : List V} (h : Reps T ws H ds vs) : ∀ n : Nat, Reps T ws H (List.replicate n ds).flatten (List.replicate n vs).flatten
  | 0 => rfl
  | n + 1 => by rw [List.replicate_succ, List.replicate_succ, List.flatten_cons, List.flatten_cons]; exact h.append (Reps.replicate h n)

/-- an object's description tells what is owned there -/
def SoRel (T : Kt) (ws : Ws) (M : Hp) : HO → SO → Prop
  | .lst xs, .lst ds => Reps T ws M ds xs
  | .ins C _ fs, .ins c ns vs => C = T.ad c ∧ InsOk T c ns ∧ fs.map (·.1) = ns.map T.f ∧ Reps T ws M vs (fs.map (·.2))
  | .dK kvs, .dct t ks vs => t = false ∧ ks = kvs.map (fun p => keyD p.1) ∧ Reps T ws M vs (kvs.map (·.2))
  | .dT kvs, .dct t ks vs => t = true ∧ ks = kvs.map (fun p => .tup (p.1.map keyD)) ∧ Reps T ws M vs (kvs.map (·.2))
  | _, _ => False
theorem SoRel.mono {T : Kt} {ws ws' : Ws} {H H' : Hp} (p : ws.own <+: ws'.own) (e : ∀ a o, H a = some o → H' a = some o) {o : HO} {so : SO} (h : SoRel T ws H o so) : SoRel T ws' H' o so := by
  cases so with
  | lst ds => cases o <;> first | exact h.elim | exact Reps.mono p e _ _ h
  | ins c ns vs => cases o <;> first | exact h.elim | exact ⟨h.1, h.2.1, h.2.2.1, Reps.mono p e _ _ h.2.2.2⟩
  | dct t ks vs => cases o <;> first | exact h.elim | exact ⟨h.1, h.2.1, Reps.mono p e _ _ h.2.2⟩
  | set t ds => cases o <;> exact h.elim
theorem SoRel.stp {T : Kt} {ws ws' : Ws} {H H' : Hp} (t : Stp ws H ws' H') {o : HO} {so : SO} (h : SoRel T ws (mask ws H) o so) : SoRel T ws' (mask ws' H') o so := h.mono t.pre t.fz
/-- the owned objects as they stand -/
structure Sta (T : Kt) (ws : Ws) (H : Hp) (s : Sto) : Prop where
  nd : ws.own.Nodup
  len : ws.own.length = s.length
  dis : ∀ a ∈ ws.hid, a ∉ ws.own
  hid : ∀ a ∈ ws.hid, ∃ o, H a = some o
  own : ∀ (l : Nat) (a : Addr) (so : SO), ws.own[l]? = some a → s[l]? = some so → ∃ o, H a = some o ∧ SoRel T ws (mask ws H) o so
section
variable {T : Kt} {ws : Ws} {H : Hp} {s : Sto} {p : Addr} {o : HO}
theorem Sta.there (S : Sta T ws H s) {a : Addr} (h : a ∈ ws.own) : ∃ o, H a = some o := by
  obtain ⟨l, hl, rfl⟩ := List.getElem_of_mem h
  have e : ws.own[l]? = some ws.own[l] := List.getElem?_eq_getElem hl
  have h2 : l < s.length := by rw [← S.len]; exact hl
  obtain ⟨xs, h3, _⟩ := S.own l _ s[l] e (List.getElem?_eq_getElem h2)
  exact ⟨_, h3⟩
theorem Sta.fresh (S : Sta T ws H s) (h : H p = none) : p ∉ ws.own ∧ p ∉ ws.hid := by
  refine ⟨fun z => ?_, fun z => ?_⟩
  · obtain ⟨o, e⟩ := S.there z
    rw [h] at e
    cases e
  · obtain ⟨o, e⟩ := S.hid p z
    rw [h] at e
    cases e
/-- a new object that is not owned -/
theorem Sta.stp_new (S : Sta T ws H s) (h : H p = none) : Stp ws H ws (upd H p o) :=
  ⟨List.prefix_refl _, fun _ z => z, fun a u e => by
    obtain ⟨n, e⟩ := mask_some e
    rw [mask_of n, upd_ne (ne_of_none e h)]
    exact e, fun a z => upd_ne fun e => (S.fresh h).2 (e ▸ z)⟩
theorem Sta.new (S : Sta T ws H s) (h : H p = none) : Sta T ws (upd H p o) s :=
  ⟨S.nd, S.len, S.dis, fun a z => by
    obtain ⟨u, e⟩ := S.hid a z
    exact ⟨u, by rw [upd_ne (ne_of_none e h)]; exact e⟩, fun l a ds e1 e2 => by
    obtain ⟨xs, h1, h2⟩ := S.own l a ds e1 e2
    exact ⟨xs, by rw [upd_ne (ne_of_none h1 h)]; exact h1, h2.stp (S.stp_new h)⟩⟩
theorem Sta.at_new (S : Sta T ws H s) (h : H p = none) : mask ws (upd H p o) p = some o := by
  rw [mask_of (S.fresh h), upd_same]
/-- a new object that is owned -/
abbrev Ws.add (ws : Ws) (p : Addr) : Ws := ⟨ws.own ++ [p], ws.hid⟩
theorem Sta.stp_own (S : Sta T ws H s) (h : H p = none) : Stp ws H (ws.add p) (upd H p o) :=
  ⟨List.prefix_append _ _, fun _ z => z, fun a u e => by
    obtain ⟨n, e⟩ := mask_some e
    have hne := ne_of_none e h
    rw [mask_of (ws := ws.add p) ⟨fun z => (List.mem_append.mp z).elim n.1 fun z => hne (by simpa using z), n.2⟩, upd_ne hne]
    exact e, fun a z => upd_ne fun e => (S.fresh h).2 (e ▸ z)⟩
theorem nodup_snoc {α : Type} {l : List α} {a : α} (h : l.Nodup) (n : a ∉ l) : (l ++ [a]).Nodup := by
  rw [List.nodup_append]
  refine ⟨h, by simp, fun x hx y hy e => ?_⟩
  have : y = a := by simpa using hy
  subst this
  subst e
  exact n hx
theorem Sta.newOwn (S : Sta T ws H s) {so : SO} (h : H p = none) (r : SoRel T ws (mask ws H) o so) : Sta T (ws.add p) (upd H p o) (s ++ [so]) := by
  have t : Stp ws H (ws.add p) (upd H p o) := S.stp_own h
  refine ⟨nodup_snoc S.nd (S.fresh h).1, by rw [List.length_append, List.length_append, S.len] <;> rfl, fun a z q => ?_, fun a z => ?_, fun l a es e1 e2 => ?_⟩
  · rcases List.mem_append.mp q with q | q
    · exact S.dis a z q
    · have : a = p := by simpa using q
      exact (S.fresh h).2 (this ▸ z)
  · obtain ⟨u, e⟩ := S.hid a z
    exact ⟨u, by rw [upd_ne (ne_of_none e h)]; exact e⟩
  by_cases hl : l < ws.own.length
  · rw [List.getElem?_append_left hl] at e1
    rw [List.getElem?_append_left (by rw [← S.len]; exact hl)] at e2
    obtain ⟨ys, h1, h2⟩ := S.own l a es e1 e2
    exact ⟨ys, by rw [upd_ne (ne_of_none h1 h)]; exact h1, h2.stp t⟩
  · have hl' : l = ws.own.length := by
      have := (List.getElem?_eq_some_iff.mp e1).1
      rw [List.length_append] at this
      simp at this
      omega
    subst hl'
    rw [List.getElem?_append_right (Nat.le_refl _)] at e1
    rw [List.getElem?_append_right (by rw [S.len]; exact Nat.le_refl _)] at e2
    simp [S.len] at e1 e2
    subst e1 e2
    exact ⟨o, upd_same, r.stp t⟩
/-- an owned object is written -/
theorem Sta.stp_put (S : Sta T ws H s) {l : Nat} {a : Addr} {o : HO} (e : ws.own[l]? = some a) : Stp ws H ws (upd H a o) :=
  ⟨List.prefix_refl _, fun _ z => z, fun b u h => by
    obtain ⟨n, h⟩ := mask_some h
    have hne : b ≠ a := fun z => n.1 (by rw [z]; exact List.mem_of_getElem? e)
    rw [mask_of n, upd_ne hne]
    exact h, fun b z => upd_ne fun q => S.dis b z (by rw [q]; exact List.mem_of_getElem? e)⟩
theorem Sta.put (S : Sta T ws H s) {l : Nat} {a : Addr} {so : SO} {o : HO} (e : ws.own[l]? = some a) (r : SoRel T ws (mask ws H) o so) : Sta T ws (upd H a o) (s.set l so) := by
  have t : Stp ws H ws (upd H a o) := S.stp_put e
  refine ⟨S.nd, by rw [List.length_set]; exact S.len, S.dis, fun b z => ?_, fun k b es e1 e2 => ?_⟩
  · rw [t.hk b z]
    exact S.hid b z
  by_cases hk : k = l
  · subst hk
    rw [e] at e1
    cases e1
    have hl : k < s.length := by rw [← S.len]; exact (List.getElem?_eq_some_iff.mp e).1
    rw [List.getElem?_set_self hl] at e2
    cases e2
    exact ⟨o, upd_same, r.stp t⟩
  · rw [List.getElem?_set_ne (Ne.symm hk)] at e2
    obtain ⟨ys, h1, h2⟩ := S.own k b es e1 e2
    have hb : b ≠ a := fun z => by
      subst z
      exact hk (nd_ix S.nd e1 e)
    exact ⟨ys, by rw [upd_ne hb]; exact h1, h2.stp t⟩
/-- what an owned list holds -/
def lstAt (s : Sto) (l : Nat) : Option (List D) := match s[l]? with
  | some (.lst ds) => some ds
  | _ => none
theorem lstAt_some {s : Sto} {l : Nat} {ds : List D} (h : lstAt s l = some ds) : s[l]? = some (.lst ds) := by
  unfold lstAt at h
  split at h
  · cases h; assumption
  · cases h
theorem Sta.lst (S : Sta T ws H s) {l : Nat} {a : Addr} {ds : List D} (e : ws.own[l]? = some a) (h : lstAt s l = some ds) : ∃ xs, H a = some (.lst xs) ∧ Reps T ws (mask ws H) ds xs := by
  obtain ⟨o, h1, h2⟩ := S.own l a _ e (lstAt_some h)
  cases o <;> first | exact h2.elim | exact ⟨_, h1, h2⟩
end

/-- the error that an except suite holds: its slot, its object, its dict -/
structure Sx where
  i : Nat
  a : Addr
  dx : Option Addr
  e : Exn
/-- what a derivation is over: the table, the wish about errors, the suite's error -/
structure Cn where
  T : Kt
  W : WX
  x : Option Sx
abbrev nsl (x : Option Sx) (i : Nat) : Prop := match x with
  | none => True
  | some q => q.i ≠ i
def ExRep (T : Kt) (ws : Ws) (H : Hp) (e : Exn) (cls : Value) (dx : Option Addr) : Prop := cls = .ref (T.ad e.c) ∧ ∃ d fs v, dx = some d ∧ mask ws H d = some (.xd fs) ∧ fs.lookup ("place" : Str) = some v ∧ Rep T ws (mask ws H) e.p v ∧ fs.lookup ("name" : Str) = some (.str (T.nm e.c))
theorem ExRep.stp {T : Kt} {ws ws' : Ws} {H H' : Hp} {e : Exn} {cls : Value} {dx : Option Addr} (t : Stp ws H ws' H') (h : ExRep T ws H e cls dx) : ExRep T ws' H' e cls dx :=
  let ⟨h1, d, fs, v, h2, h3, h4, h5, h6⟩ := h
  ⟨h1, d, fs, v, h2, t.fz _ _ h3, h4, h5.stp t, h6⟩
/-- the names' values -/
structure EnvOk (T : Kt) (x : Option Sx) (ws : Ws) (H : Hp) (σ : L2.St) (ρ : Rho) : Prop where
  len : σ.length = ρ.length
  at_ : ∀ (i : Nat) (d : D), ρ[i]? = some (some d) → ∃ v, σ[i]? = some (some v) ∧ Rep T ws (mask ws H) d v
  ex : ∀ q, x = some q → σ[q.i]? = some (some (.ref q.a)) ∧ ∃ cls, ExRep T ws H q.e cls q.dx
theorem EnvOk.stp {T : Kt} {x : Option Sx} {ws ws' : Ws} {H H' : Hp} {σ : L2.St} {ρ : Rho} (N : EnvOk T x ws H σ ρ) (t : Stp ws H ws' H') : EnvOk T x ws' H' σ ρ :=
  ⟨N.len, fun i d e => let ⟨v, h1, h2⟩ := N.at_ i d e; ⟨v, h1, h2.stp t⟩, fun q e => let ⟨h1, c, h2⟩ := N.ex q e; ⟨h1, c, h2.stp t⟩⟩
theorem EnvOk.stq {T : Kt} {x : Option Sx} {ws ws' : Ws} {H H' : Hp} {σ : L2.St} {ρ : Rho} (N : EnvOk T x ws H σ ρ) (t : Stq ws H ws' H') : EnvOk T x ws' H' σ ρ :=
  ⟨N.len, fun i d e => let ⟨v, h1, h2⟩ := N.at_ i d e; ⟨v, h1, h2.stq t⟩, fun q e => let ⟨h1, c, g1, d, fs, v, g2, g3, g4, g5, g6⟩ := N.ex q e; ⟨h1, c, g1, d, fs, v, g2, t.fz _ _ g3, g4, g5.stq t, g6⟩⟩
theorem EnvOk.set {T : Kt} {x : Option Sx} {ws : Ws} {H : Hp} {σ : L2.St} {ρ : Rho} (N : EnvOk T x ws H σ ρ) {i : Nat} {d : D} {v : V} (r : Rep T ws (mask ws H) d v) (hx : nsl x i) : EnvOk T x ws H (σ.set i (some v)) (ρ.set i (some d)) := by
  refine ⟨by rw [List.length_set, List.length_set]; exact N.len, fun j e h => ?_, fun q e => ?_⟩
  · by_cases hj : i = j
    · subst hj
      have hi : i < ρ.length := by
        have := (List.getElem?_eq_some_iff.mp h).1
        rwa [List.length_set] at this
      rw [List.getElem?_set_self hi] at h
      cases h
      exact ⟨v, by rw [List.getElem?_set_self (by rw [N.len]; exact hi)], r⟩
    · rw [List.getElem?_set_ne hj] at h
      rw [List.getElem?_set_ne hj]
      exact N.at_ j e h
  · obtain ⟨h1, h2⟩ := N.ex q e
    have hne : q.i ≠ i := by
      unfold nsl at hx
      rw [e] at hx
      exact hx
    exact ⟨by rw [List.getElem?_set_ne (Ne.symm hne)]; exact h1, h2⟩
theorem EnvOk.clr {T : Kt} {x : Option Sx} {ws : Ws} {H : Hp} {σ : L2.St} {ρ : Rho} (N : EnvOk T x ws H σ ρ) {i : Nat} (hx : nsl x i) : EnvOk T x ws H (σ.set i none) (ρ.set i none) := by
  refine ⟨by rw [List.length_set, List.length_set]; exact N.len, fun j e h => ?_, fun q e => ?_⟩
  · by_cases hj : i = j
    · subst hj
      have hi : i < ρ.length := by
        have := (List.getElem?_eq_some_iff.mp h).1
        rwa [List.length_set] at this
      rw [List.getElem?_set_self hi] at h
      cases h
    · rw [List.getElem?_set_ne hj] at h
      rw [List.getElem?_set_ne hj]
      exact N.at_ j e h
  · obtain ⟨h1, h2⟩ := N.ex q e
    have hne : q.i ≠ i := by
      unfold nsl at hx
      rw [e] at hx
      exact hx
    exact ⟨by rw [List.getElem?_set_ne (Ne.symm hne)]; exact h1, h2⟩
def wipeD (ρ : Rho) : List Nat → Rho
  | [] => ρ
  | v :: vs => (wipeD ρ vs).set v none
theorem EnvOk.wipe {T : Kt} {x : Option Sx} {ws : Ws} {H : Hp} {σ : L2.St} {ρ : Rho} (N : EnvOk T x ws H σ ρ) : ∀ vs : List Nat, (∀ i ∈ vs, nsl x i) → EnvOk T x ws H (L2.wipe σ vs) (wipeD ρ vs)
  | [], _ => N
  | _ :: vs, hx => (EnvOk.wipe N vs fun i hi => hx i (List.mem_cons_of_mem _ hi)).clr (hx _ List.mem_cons_self)

/-! ### what is evaluated -/
inductive Res (α : Type) where
  | ok (x : α) (s : Sto) | ex (e : Exn) (s : Sto)
abbrev M (α : Type) := Rho → Sto → Option (Res α)
def bnd {α β : Type} (a : M α) (k : α → M β) : M β := fun ρ s => match a ρ s with
  | some (.ok x s1) => k x ρ s1
  | some (.ex e s1) => some (.ex e s1)
  | none => none
def got {α : Type} (f : Sto → Option α) : M α := fun _ s => match f s with
  | some x => some (.ok x s)
  | none => none
def ret {α : Type} (x : α) : M α := fun _ s => some (.ok x s)
theorem got_some {α : Type} {f : Sto → Option α} {ρ : Rho} {s : Sto} {r : Res α} (h : got f ρ s = some r) : ∃ x, f s = some x ∧ r = .ok x s := by
  unfold got at h
  split at h
  · rename_i y e
    cases h
    exact ⟨y, e, rfl⟩
  · cases h
theorem ret_some {α : Type} {x : α} {ρ : Rho} {s : Sto} {r : Res α} (h : ret x ρ s = some r) : r = .ok x s := by
  cases h
  rfl
/-- the wish about an error that comes out -/
def XOk {α : Type} (C : Cn) (ws : Ws) (H : Hp) (σ : L2.St) (r : Res α) : Prop := match r with
  | .ok _ _ => True
  | .ex e s' => ∀ cls dx ws' H', Stp ws H ws' H' → Sta C.T ws' H' s' → ExRep C.T ws' H' e cls dx → C.W cls dx σ H'
theorem XOk.stp {α : Type} {C : Cn} {ws ws1 : Ws} {H H1 : Hp} {σ : L2.St} {r : Res α} (h : XOk C ws H σ r) (t : Stp ws H ws1 H1) : XOk C ws1 H1 σ r := by
  cases r with
  | ok x s => exact True.intro
  | ex e s => exact fun cls dx ws' H' t' => h cls dx ws' H' (t.trans t')

def EvS (C : Cn) (te : TE) (f : M D) : Prop := ∀ (ws : Ws) (H : Hp) (s : Sto) (σ : L2.St) (ρ : Rho) (r : Res D) (Q : VK), Sta C.T ws H s → EnvOk C.T C.x ws H σ ρ → f ρ s = some r → XOk C ws H σ r →
  (∀ d s', r = .ok d s' → ∀ v ws' H', Stp ws H ws' H' → Sta C.T ws' H' s' → Rep C.T ws' (mask ws' H') d v → Q v H') → te σ H Q
def EvT (C : Cn) (tt : TT) (f : M Bool) : Prop := ∀ (ws : Ws) (H : Hp) (s : Sto) (σ : L2.St) (ρ : Rho) (r : Res Bool) (Q : Bool → Hp → Prop), Sta C.T ws H s → EnvOk C.T C.x ws H σ ρ → f ρ s = some r → XOk C ws H σ r →
  (∀ d s', r = .ok d s' → ∀ ws' H', Stp ws H ws' H' → Sta C.T ws' H' s' → Q d H') → tt σ H Q
def EvA (C : Cn) (ta : TA) (f : M (List D)) : Prop := ∀ (ws : Ws) (H : Hp) (s : Sto) (σ : L2.St) (ρ : Rho) (r : Res (List D)) (Q : List V → Hp → Prop), Sta C.T ws H s → EnvOk C.T C.x ws H σ ρ → f ρ s = some r → XOk C ws H σ r →
  (∀ d s', r = .ok d s' → ∀ v ws' H', Stp ws H ws' H' → Sta C.T ws' H' s' → Reps C.T ws' (mask ws' H') d v → Q v H') → ta σ H Q
section
variable {β : Type} {C : Cn} {ws : Ws} {H : Hp} {s : Sto} {σ : L2.St} {ρ : Rho} {r : Res β}
theorem EvS.b {te : TE} {f : M D} {k : D → M β} {Q : VK} (ea : EvS C te f) (S : Sta C.T ws H s) (N : EnvOk C.T C.x ws H σ ρ) (h : bnd f k ρ s = some r) (x : XOk C ws H σ r)
    (q : ∀ d s1, k d ρ s1 = some r → ∀ v ws1 H1, Stp ws H ws1 H1 → Sta C.T ws1 H1 s1 → Rep C.T ws1 (mask ws1 H1) d v → Q v H1) : te σ H Q := by
  unfold bnd at h
  split at h
  · rename_i d s1 e
    exact ea ws H s σ ρ _ Q S N e True.intro fun d' s' hd => by cases hd; exact q d s1 h
  · rename_i e s1 he
    cases h
    exact ea ws H s σ ρ _ Q S N he x fun d' s' hd => nomatch hd
  · cases h
theorem EvT.b {tt : TT} {f : M Bool} {k : Bool → M β} {Q : Bool → Hp → Prop} (ea : EvT C tt f) (S : Sta C.T ws H s) (N : EnvOk C.T C.x ws H σ ρ) (h : bnd f k ρ s = some r) (x : XOk C ws H σ r)
    (q : ∀ d s1, k d ρ s1 = some r → ∀ ws1 H1, Stp ws H ws1 H1 → Sta C.T ws1 H1 s1 → Q d H1) : tt σ H Q := by
  unfold bnd at h
  split at h
  · rename_i d s1 e
    exact ea ws H s σ ρ _ Q S N e True.intro fun d' s' hd => by cases hd; exact q d s1 h
  · rename_i e s1 he
    cases h
    exact ea ws H s σ ρ _ Q S N he x fun d' s' hd => nomatch hd
  · cases h
theorem EvA.b {ta : TA} {f : M (List D)} {k : List D → M β} {Q : List V → Hp → Prop} (ea : EvA C ta f) (S : Sta C.T ws H s) (N : EnvOk C.T C.x ws H σ ρ) (h : bnd f k ρ s = some r) (x : XOk C ws H σ r)
    (q : ∀ d s1, k d ρ s1 = some r → ∀ v ws1 H1, Stp ws H ws1 H1 → Sta C.T ws1 H1 s1 → Reps C.T ws1 (mask ws1 H1) d v → Q v H1) : ta σ H Q := by
  unfold bnd at h
  split at h
  · rename_i d s1 e
    exact ea ws H s σ ρ _ Q S N e True.intro fun d' s' hd => by cases hd; exact q d s1 h
  · rename_i e s1 he
    cases h
    exact ea ws H s σ ρ _ Q S N he x fun d' s' hd => nomatch hd
  · cases h
end
structure DE (X : Cx) (C : Cn) (e : Expr) (f : M D) : Prop where
  ex : ∃ te, PE X e te ∧ EvS C te f
structure DT (X : Cx) (C : Cn) (e : Expr) (f : M Bool) : Prop where
  ex : ∃ tt, PT X e tt ∧ EvT C tt f
structure DW (X : Cx) (C : Cn) (e : Expr) (f : M Bool) : Prop where
  ex : ∃ tt, PW X e tt ∧ EvT C tt f
structure DA (X : Cx) (C : Cn) (es : List Expr) (f : M (List D)) : Prop where
  ex : ∃ ta, PA X es ta ∧ EvA C ta f
theorem DW.t {X : Cx} {C : Cn} {e : Expr} {f : M Bool} (h : DW X C e f) : DT X C e f := let ⟨t, a, b⟩ := h.ex; ⟨t, a.pt, b⟩

section
variable {X : Cx} {C : Cn} {a b c e : Expr} {es : List Expr} {f g k : M D} {pos p : Pos}

/-! ### names, constants -/
def fVar (i : Nat) : M D := fun ρ s => match ρ[i]? with
  | some (some d) => some (.ok d s)
  | _ => none
def fC (d : D) : M D := fun _ s => some (.ok d s)
theorem de_var (i : Nat) {x : Str} (hN : X.N[i]? = some x := by rfl) (hv : Vis X.env.scope x := by first | exact Or.inl rfl | exact Or.inr (Or.inl rfl) | exact Or.inr (Or.inr rfl))
    (hd : (x == ("__debug__" : Str)) = false := by decide) (hcd : (x == ("__classdict__" : Str)) = false := by decide) : DE X C (.Name x pos) (fVar i) :=
  ⟨_, pe_var hN hv hd hcd, fun ws H s σ ρ r Q S N h x q => by
    unfold fVar at h
    split at h
    · rename_i d' e
      cases h
      obtain ⟨v, e1, r⟩ := N.at_ i _ e
      exact ⟨v, e1, q _ _ rfl v ws H (Stp.refl _ _) S r⟩
    · cases h⟩
theorem ev_c {v : V} {d : D} (h : ∀ ws H, Rep C.T ws H d v) : EvS C (tC v) (fC d) := fun ws H s σ ρ d' Q S N h' x q => by
  cases h'
  exact q _ _ rfl v ws H (Stp.refl _ _) S (h _ _)
theorem de_int {i : Int} {j} : DE X C (.Constant (.int i) j pos) (fC (.int i)) := ⟨_, pe_int, ev_c fun _ _ => rfl⟩
theorem de_bl {i : Bool} {j} : DE X C (.Constant (.bool i) j pos) (fC (.bl i)) := ⟨_, pe_bl, ev_c fun _ _ => rfl⟩
theorem de_non {j} : DE X C (.Constant .none j pos) (fC .non) := ⟨_, pe_non, ev_c fun _ _ => rfl⟩
theorem de_str {x : Str} {j} : DE X C (.Constant (.str x) j pos) (fC (.str x)) := ⟨_, pe_str, ev_c fun _ _ => rfl⟩
/-- a module's constant that is no object -/
theorem de_glob {x : Str} {v : V} {u : Value} {d : D} (hm : X.mg x = some u) (r : RelV v u) (h : ∀ ws H, Rep C.T ws H d v) (hg : Gl X x := by rfl) (hd : (x == ("__debug__" : Str)) = false := by decide) : DE X C (.Name x pos) (fC d) := ⟨_, pe_glob hg hm r hd, ev_c h⟩

/-! ### operators by values -/
/-- r on the values of x and y gives that of z -/
def OpS (T : Kt) (r : R2) (g : Sto → D → D → Option D) : Prop := ∀ (ws : Ws) (H : Hp) (s : Sto) (x y z : D) (v u : V) (Q : VK), Sta T ws H s → Rep T ws (mask ws H) x v → Rep T ws (mask ws H) y u → g s x y = some z →
  (∀ w ws' H', Stp ws H ws' H' → Sta T ws' H' s → Rep T ws' (mask ws' H') z w → Q w H') → r v u H Q
def fOp (g : Sto → D → D → Option D) (fa fb : M D) : M D := bnd fa fun x => bnd fb fun y => got fun s => g s x y
theorem ev_op {ta tb : TE} {fa fb : M D} {r : R2} {g : Sto → D → D → Option D} (ha : EvS C ta fa) (hb : EvS C tb fb) (ho : OpS C.T r g) : EvS C (tOp r ta tb) (fOp g fa fb) := fun ws H s σ ρ R Q S N h X q =>
  (ha.b) S N h X fun x s1 h v ws1 H1 t1 S1 r1 => (hb.b) S1 (N.stp t1) h (X.stp t1) fun y s2 h u ws2 H2 t2 S2 r2 => by
    obtain ⟨z, h3, rfl⟩ := got_some h
    exact ho ws2 H2 _ x y z v u Q S2 (r1.stp t2) r2 h3 fun w ws' H' t3 S3 r3 => q _ _ rfl w ws' H' ((t1.trans t2).trans t3) S3 r3
theorem de_bin {op : Operator} {r : R2} {fa fb : M D} {gg : Sto → D → D → Option D} (hr : OpR X (binaryOp op) r) (ho : OpS C.T r gg) (ha : DE X C a fa) (hb : DE X C b fb) : DE X C (.BinOp a op b pos) (fOp gg fa fb) :=
  let ⟨_, pa, ea⟩ := ha.ex
  let ⟨_, pb, eb⟩ := hb.ex
  ⟨_, pe_op hr pa pb, ev_op ea eb ho⟩
theorem de_cmp {op : CmpOp} {r : R2} {fa fb : M D} {gg : Sto → D → D → Option D} (hr : OpR X (compareOp op) r) (ho : OpS C.T r gg) (ha : DE X C a fa) (hb : DE X C b fb) (hm : behindInMarks op b = false) : DE X C (.Compare a [op] [b] pos) (fOp gg fa fb) :=
  let ⟨_, pa, ea⟩ := ha.ex
  let ⟨_, pb, eb⟩ := hb.ex
  ⟨_, pe_cmpR hr pa pb hm, ev_op ea eb ho⟩
theorem OpS.or {T : Kt} {r r' : R2} {g g' : Sto → D → D → Option D} (h : OpS T r g) (h' : OpS T r' g') : OpS T (fun x y H Q => r x y H Q ∨ r' x y H Q) (fun s x y => (g s x y).or (g' s x y)) := fun ws H s x y z v u Q S r1 r2 e q => by
  cases e1 : g s x y with
  | some z' =>
    simp only [e1, Option.some_or] at e
    cases e
    exact .inl (h ws H s x y _ v u Q S r1 r2 e1 q)
  | none =>
    simp only [e1, Option.none_or] at e
    exact .inr (h' ws H s x y z v u Q S r1 r2 e q)
end
end VM
set_option Elab.async false
set_option maxRecDepth 100000
set_option maxHeartbeats 4000000
set_option linter.all false
set_option autoImplicit false
namespace VM
open PySem L2
noncomputable section

theorem lim_ex : ∃ n : Nat, n = 100000 := ⟨100000, rfl⟩
/-- the most items of a list (a name that nothing opens) -/
noncomputable def LIM : Nat := Classical.choose lim_ex
theorem LIM_eq : LIM = 100000 := Classical.choose_spec lim_ex
theorem le_LIM {n : Nat} (h : n ≤ 100000) : n ≤ LIM := by rw [LIM_eq]; exact h
@[simp] theorem lit_LIM (n : Nat) (h : n ≤ 100000) : (no_index (OfNat.ofNat n) : Nat) ≤ LIM := le_LIM h
/-- bounds, as names that nothing opens -/
theorem small_ex : ∃ f : Int → Bool, ∀ j, f j = true ↔ -(2 ^ 62) ≤ j ∧ j < 2 ^ 62 := ⟨fun j => decide (-(2 ^ 62) ≤ j ∧ j < 2 ^ 62), fun j => decide_eq_true_iff⟩
noncomputable def smallI : Int → Bool := Classical.choose small_ex
theorem smallI_iff (j : Int) : smallI j = true ↔ -(2 ^ 62) ≤ j ∧ j < 2 ^ 62 := Classical.choose_spec small_ex j
theorem smallI_of {j : Int} (h1 : -1000000 ≤ j) (h2 : j ≤ 1000000) : smallI j = true := (smallI_iff j).mpr ⟨by omega, by omega⟩
@[simp] theorem smallI_lit (n : Nat) (h : n ≤ 1000000) : smallI (no_index (OfNat.ofNat n) : Int) = true := smallI_of (j := (n : Int)) (by omega) (by omega)
theorem smallI_nat {n : Nat} (h : n ≤ LIM) : smallI (n : Int) = true := smallI_of (by omega) (by rw [LIM_eq] at h; omega)
theorem mulOk_ex : ∃ f : Int → Int → Bool, ∀ i j, f i j = true ↔ (-(2 ^ 64) < i ∧ i < 2 ^ 64) ∨ (-(2 ^ 64) < j ∧ j < 2 ^ 64) := ⟨fun i j => decide ((-(2 ^ 64) < i ∧ i < 2 ^ 64) ∨ (-(2 ^ 64) < j ∧ j < 2 ^ 64)), fun i j => decide_eq_true_iff⟩
noncomputable def mulOk : Int → Int → Bool := Classical.choose mulOk_ex
theorem mulOk_iff (i j : Int) : mulOk i j = true ↔ (-(2 ^ 64) < i ∧ i < 2 ^ 64) ∨ (-(2 ^ 64) < j ∧ j < 2 ^ 64) := Classical.choose_spec mulOk_ex i j
@[simp] theorem mulOk_litr (i : Int) (n : Nat) (h : n ≤ 1000000000000) : mulOk i (no_index (OfNat.ofNat n) : Int) = true := (mulOk_iff i (n : Int)).mpr (.inr ⟨by omega, by omega⟩)
@[simp] theorem mulOk_litl (i : Int) (n : Nat) (h : n ≤ 1000000000000) : mulOk (no_index (OfNat.ofNat n) : Int) i = true := (mulOk_iff (n : Int) i).mpr (.inl ⟨by omega, by omega⟩)
theorem shOk_ex : ∃ f : Int → Int → Bool, ∀ i j, f i j = true ↔ 0 ≤ j ∧ j ≤ 1000000 ∧ i.natAbs < 2 ^ 64 := ⟨fun i j => decide (0 ≤ j ∧ j ≤ 1000000 ∧ i.natAbs < 2 ^ 64), fun i j => decide_eq_true_iff⟩
noncomputable def shOk : Int → Int → Bool := Classical.choose shOk_ex
theorem shOk_iff (i j : Int) : shOk i j = true ↔ 0 ≤ j ∧ j ≤ 1000000 ∧ i.natAbs < 2 ^ 64 := Classical.choose_spec shOk_ex i j
theorem shOk_of {i j : Int} (h0 : 0 ≤ i) (h1 : i ≤ 1000000000000) (h2 : 0 ≤ j) (h3 : j ≤ 1000000) : shOk i j = true := (shOk_iff i j).mpr ⟨h2, h3, by omega⟩
@[simp] theorem shOk_lit (n m : Nat) (h : n ≤ 1000000000000) (h2 : m ≤ 1000000) : shOk (no_index (OfNat.ofNat n) : Int) (no_index (OfNat.ofNat m) : Int) = true := shOk_of (i := (n : Int)) (j := (m : Int)) (by omega) (by omega) (by omega) (by omega)
theorem dvOk_ex : ∃ f : Int → Bool, ∀ j, f j = true ↔ 0 < j ∧ j < 1073741824 := ⟨fun j => decide (0 < j ∧ j < 1073741824), fun j => decide_eq_true_iff⟩
noncomputable def dvOk : Int → Bool := Classical.choose dvOk_ex
theorem dvOk_iff (j : Int) : dvOk j = true ↔ 0 < j ∧ j < 1073741824 := Classical.choose_spec dvOk_ex j
@[simp] theorem dvOk_lit (n : Nat) (h : 0 < n) (h2 : n ≤ 1000000000) : dvOk (no_index (OfNat.ofNat n) : Int) = true := (dvOk_iff (n : Int)).mpr ⟨by omega, by omega⟩
theorem lim_sz {n : Nat} (h : n ≤ LIM) : n ≤ sizeLine := Nat.le_trans h (by rw [LIM_eq]; decide)
theorem lim_lt {n : Nat} (h : n < LIM) : n < sizeLine := Nat.lt_of_lt_of_le h (by rw [LIM_eq]; decide)

/-! ### items -/
def itL (s : Sto) : D → Option (List D)
  | .lst ds => some ds
  | .lck ds => some ds
  | .own l => lstAt s l
  | _ => none
def itM (s : Sto) : D → Option (List D)
  | .lst ds => some ds
  | .own l => lstAt s l
  | _ => none
section
variable {T : Kt} {ws : Ws} {H : Hp} {s : Sto} {d : D} {v : V} {ds : List D}
theorem itM_ok (S : Sta T ws H s) (r : Rep T ws (mask ws H) d v) (h : itM s d = some ds) : ∃ a xs, v = .ref a ∧ H a = some (.lst xs) ∧ Reps T ws (mask ws H) ds xs := by
  cases d with
  | lst es =>
    cases h
    obtain ⟨a, xs, e, h1, h2⟩ := r
    exact ⟨a, xs, e, (mask_some h1).2, h2⟩
  | own l =>
    obtain ⟨a, h1, e⟩ := r
    obtain ⟨xs, h2, h3⟩ := S.lst h1 h
    exact ⟨a, xs, e, h2, h3⟩
  | _ => cases h
theorem itL_ok (S : Sta T ws H s) (r : Rep T ws (mask ws H) d v) (h : itL s d = some ds) : ∃ a xs, v = .ref a ∧ SqL T.K H a xs ∧ Reps T ws (mask ws H) ds xs := by
  cases d with
  | lst es =>
    cases h
    obtain ⟨a, xs, e, h1, h2⟩ := r
    exact ⟨a, xs, e, .of (mask_some h1).2, h2⟩
  | lck es =>
    cases h
    obtain ⟨a, xs, e, h1, h2⟩ := r
    exact ⟨a, xs, e, sqL_un h1, h2⟩
  | own l =>
    obtain ⟨a, h1, e⟩ := r
    obtain ⟨xs, h2, h3⟩ := S.lst h1 h
    exact ⟨a, xs, e, .of h2, h3⟩
  | _ => cases h
end

/-! ### arithmetic -/
abbrev G2 := Sto → D → D → Option D
def i2 (g : Int → Int → Option D) : G2 := fun _ x y => match x, y with
  | .int i, .int j => g i j
  | _, _ => none
theorem i2_some {g : Int → Int → Option D} {s : Sto} {x y z : D} (h : i2 g s x y = some z) : ∃ i j, x = .int i ∧ y = .int j ∧ g i j = some z := by
  unfold i2 at h
  split at h
  · exact ⟨_, _, rfl, rfl, h⟩
  · cases h
theorem ops_I0 {T : Kt} {g : Int → Int → V} {G : Int → Int → D} (h : ∀ i j ws H, Rep T ws H (G i j) (g i j)) : OpS T (rI0 g) (i2 fun i j => some (G i j)) := fun ws H s x y z v u Q S r1 r2 e q => by
  obtain ⟨i, j, rfl, rfl, e⟩ := i2_some e
  cases e
  cases r1
  cases r2
  exact ⟨i, j, rfl, rfl, q _ ws H (Stp.refl _ _) S (h _ _ _ _)⟩
theorem ops_I {T : Kt} {C : Int → Int → Prop} {g : Int → Int → V} {G : Int → Int → Option D} (h : ∀ i j z, G i j = some z → C i j ∧ ∀ ws H, Rep T ws H z (g i j)) : OpS T (rI C g) (i2 G) := fun ws H s x y z v u Q S r1 r2 e q => by
  obtain ⟨i, j, rfl, rfl, e⟩ := i2_some e
  cases r1
  cases r2
  obtain ⟨hc, hr⟩ := h i j z e
  exact ⟨i, j, rfl, rfl, hc, q _ ws H (Stp.refl _ _) S (hr _ _)⟩
def subD : G2 := i2 fun i j => some (.int (i - j))
def andD : G2 := i2 fun i j => some (.int (Builtin.bitAnd i j))
def orD : G2 := i2 fun i j => some (.int (Builtin.bitOr i j))
def xorD : G2 := i2 fun i j => some (.int (Builtin.bitXor i j))
def ltD : G2 := i2 fun i j => some (.bl (decide (i < j)))
def leD : G2 := i2 fun i j => some (.bl (decide (i ≤ j)))
def gtD : G2 := i2 fun i j => some (.bl (decide (j < i)))
def geD : G2 := i2 fun i j => some (.bl (decide (j ≤ i)))
def mulI (i j : Int) : Option D := if mulOk i j = true then some (.int (i * j)) else none
def fdivI (i j : Int) : Option D := if dvOk j = true then some (.int (i / j)) else none
def modI (i j : Int) : Option D := if 0 < j then some (.int (i % j)) else none
def shlI (i j : Int) : Option D := if shOk i j = true then some (.int (i * 2 ^ j.toNat)) else none
def powI (i j : Int) : Option D := if shOk i j = true then some (.int (i ^ j.toNat)) else none
def shrI (i j : Int) : Option D := if 0 ≤ j then some (.int (i / 2 ^ j.toNat)) else none
section
variable {T : Kt}
theorem ops_sub : OpS T (rI0 fun i j => .int (i - j)) subD := ops_I0 fun _ _ _ _ => rfl
theorem ops_mulI : OpS T (rI CMul fun i j => .int (i * j)) (i2 mulI) := ops_I fun i j z h => by
  unfold mulI at h
  split at h
  · cases h; exact ⟨(mulOk_iff _ _).mp (by assumption), fun _ _ => rfl⟩
  · cases h
theorem ops_fdiv : OpS T (rI CDiv fun i j => .int (i / j)) (i2 fdivI) := ops_I fun i j z h => by
  unfold fdivI at h
  split at h
  · cases h; exact ⟨(dvOk_iff _).mp (by assumption), fun _ _ => rfl⟩
  · cases h
theorem ops_mod : OpS T (rI (fun _ j => 0 < j) fun i j => .int (i % j)) (i2 modI) := ops_I fun i j z h => by
  unfold modI at h
  split at h
  · cases h; exact ⟨by assumption, fun _ _ => rfl⟩
  · cases h
theorem ops_shl : OpS T (rI CPow fun i j => .int (i * 2 ^ j.toNat)) (i2 shlI) := ops_I fun i j z h => by
  unfold shlI at h
  split at h
  · cases h; exact ⟨(shOk_iff _ _).mp (by assumption), fun _ _ => rfl⟩
  · cases h
theorem ops_pow : OpS T (rI CPow fun i j => .int (i ^ j.toNat)) (i2 powI) := ops_I fun i j z h => by
  unfold powI at h
  split at h
  · cases h; exact ⟨(shOk_iff _ _).mp (by assumption), fun _ _ => rfl⟩
  · cases h
theorem ops_shr : OpS T (rI (fun _ j => 0 ≤ j) fun i j => .int (i / 2 ^ j.toNat)) (i2 shrI) := ops_I fun i j z h => by
  unfold shrI at h
  split at h
  · cases h; exact ⟨by assumption, fun _ _ => rfl⟩
  · cases h
theorem ops_and : OpS T (rI0 fun i j => .int (Builtin.bitAnd i j)) andD := ops_I0 fun _ _ _ _ => rfl
theorem ops_or : OpS T (rI0 fun i j => .int (Builtin.bitOr i j)) orD := ops_I0 fun _ _ _ _ => rfl
theorem ops_xor : OpS T (rI0 fun i j => .int (Builtin.bitXor i j)) xorD := ops_I0 fun _ _ _ _ => rfl
theorem ops_lt : OpS T (rI0 fun i j => .bl (decide (i < j))) ltD := ops_I0 fun _ _ _ _ => rfl
theorem ops_le : OpS T (rI0 fun i j => .bl (decide (i ≤ j))) leD := ops_I0 fun _ _ _ _ => rfl
theorem ops_gt : OpS T (rI0 fun i j => .bl (decide (j < i))) gtD := ops_I0 fun _ _ _ _ => rfl
theorem ops_ge : OpS T (rI0 fun i j => .bl (decide (j ≤ i))) geD := ops_I0 fun _ _ _ _ => rfl
end

/-! ### a + b, a * b of any kind -/
def addD (s : Sto) (x y : D) : Option D := match x, y with
  | .int i, .int j => some (.int (i + j))
  | .str a, .str b => if a.length + b.length ≤ LIM then some (.str (a ++ b)) else none
  | .tup a, .tup b => if a.length + b.length ≤ LIM then some (.tup (a ++ b)) else none
  | .lst a, .lst b => if a.length + b.length ≤ LIM then some (.lst (a ++ b)) else none
  | _, _ => none
def rAdd4 (K : PySem.W.Frag) : R2 := fun x y H Q => (∃ i j, x = .int i ∧ y = .int j ∧ Q (.int (i + j)) H) ∨ ((∃ i j, x = .str i ∧ y = .str j ∧ i.length + j.length ≤ sizeLine ∧ Q (.str (i ++ j)) H) ∨ (rCatA K x y H Q ∨ rCat x y H Q))
theorem op_add4 {X : Cx} : OpR X (binaryOp .Add) (rAdd4 X.K) := op_add.or (op_add_str.or (op_catA.or op_cat))
theorem ops_add {T : Kt} : OpS T (rAdd4 T.K) addD := fun ws H s x y z v u Q S r1 r2 e q => by
  unfold addD at e
  split at e
  · cases e
    cases r1
    cases r2
    exact .inl ⟨_, _, rfl, rfl, q _ ws H (Stp.refl _ _) S rfl⟩
  · split at e
    · cases e
      cases r1
      cases r2
      exact .inr (.inl ⟨_, _, rfl, rfl, lim_sz (by assumption), q _ ws H (Stp.refl _ _) S rfl⟩)
    · cases e
  · rename_i a b
    split at e
    · rename_i hl
      cases e
      obtain ⟨p1, xs, rfl, h1, k1⟩ := r1
      obtain ⟨p2, ys, rfl, h2, k2⟩ := r2
      refine .inr (.inr (.inl ⟨p1, p2, xs, ys, rfl, rfl, sqT_un h1, sqT_un h2, lim_sz (by rw [← k1.length, ← k2.length]; exact hl), fun e1 => ?_, fun _ e2 => ?_, fun _ _ p hp => ?_⟩))
      · subst e1
        have : a = [] := List.length_eq_zero_iff.mp k1.length
        subst this
        exact q _ ws H (Stp.refl _ _) S ⟨p2, ys, rfl, h2, k2⟩
      · subst e2
        have : b = [] := List.length_eq_zero_iff.mp k2.length
        subst this
        exact q _ ws H (Stp.refl _ _) S ⟨p1, xs, rfl, h1, by rw [List.append_nil]; exact k1⟩
      · have t : Stp ws H ws (upd H p (.tup (xs ++ ys))) := S.stp_new hp
        exact q _ ws _ t (S.new hp) ⟨p, _, rfl, .of (S.at_new hp), (k1.append k2).stp t⟩
    · cases e
  · rename_i a b
    split at e
    · rename_i hl
      cases e
      obtain ⟨p1, xs, rfl, h1, k1⟩ := r1
      obtain ⟨p2, ys, rfl, h2, k2⟩ := r2
      refine .inr (.inr (.inr ⟨p1, p2, xs, ys, rfl, rfl, (mask_some h1).2, (mask_some h2).2, lim_sz (by rw [← k1.length, ← k2.length]; exact hl), fun p hp => ?_⟩))
      have t : Stp ws H ws (upd H p (.lst (xs ++ ys))) := S.stp_new hp
      exact q _ ws _ t (S.new hp) ⟨p, _, rfl, S.at_new hp, (k1.append k2).stp t⟩
    · cases e
  · cases e
/-- += of ints and texts -/
def addI (s : Sto) (x y : D) : Option D := match x, y with
  | .int i, .int j => some (.int (i + j))
  | .str a, .str b => if a.length + b.length ≤ LIM then some (.str (a ++ b)) else none
  | _, _ => none
theorem iop_addI {X : Cx} : OpR X (inplaceOp .Add) (fun x y H Q => (∃ i j, x = .int i ∧ y = .int j ∧ Q (.int (i + j)) H) ∨ (∃ i j, x = .str i ∧ y = .str j ∧ i.length + j.length ≤ sizeLine ∧ Q (.str (i ++ j)) H)) := iop_add.or iop_add_str
theorem ops_addI {T : Kt} : OpS T (fun x y H Q => (∃ i j, x = .int i ∧ y = .int j ∧ Q (.int (i + j)) H) ∨ (∃ i j, x = .str i ∧ y = .str j ∧ i.length + j.length ≤ sizeLine ∧ Q (.str (i ++ j)) H)) addI := fun ws H s x y z v u Q S r1 r2 e q => by
  unfold addI at e
  split at e
  · cases e
    cases r1
    cases r2
    exact .inl ⟨_, _, rfl, rfl, q _ ws H (Stp.refl _ _) S rfl⟩
  · split at e
    · cases e
      cases r1
      cases r2
      exact .inr ⟨_, _, rfl, rfl, lim_sz (by assumption), q _ ws H (Stp.refl _ _) S rfl⟩
    · cases e
  · cases e
def mulD (s : Sto) (x y : D) : Option D := match x, y with
  | .int i, .int j => mulI i j
  | .lst a, .int k => if smallI k = true ∧ a.length * k.toNat ≤ LIM then some (.lst (List.replicate k.toNat a).flatten) else none
  | _, _ => none
theorem op_mul2 {X : Cx} : OpR X (binaryOp .Mult) (fun x y H Q => rI CMul (fun i j => .int (i * j)) x y H Q ∨ rRep x y H Q) := op_mul.or op_rep
theorem ops_mul {T : Kt} : OpS T (fun x y H Q => rI CMul (fun i j => .int (i * j)) x y H Q ∨ rRep x y H Q) mulD := fun ws H s x y z v u Q S r1 r2 e q => by
  unfold mulD at e
  split at e
  · exact .inl (ops_mulI (T := T) ws H s _ _ z v u Q S r1 r2 e q)
  · rename_i a k
    split at e
    · rename_i hl
      cases e
      obtain ⟨p1, xs, rfl, h1, k1⟩ := r1
      cases r2
      have hk := (smallI_iff k).mp hl.1
      refine .inr ⟨p1, k, xs, rfl, rfl, (mask_some h1).2, by omega, by omega, lim_sz (by rw [← k1.length]; exact hl.2), fun p hp => ?_⟩
      have t : Stp ws H ws (upd H p (.lst (List.replicate k.toNat xs).flatten)) := S.stp_new hp
      exact q _ ws _ t (S.new hp) ⟨p, _, rfl, S.at_new hp, (k1.replicate _).stp t⟩
    · cases e
  · cases e

/-! ### is None -/
def isNone : D → Bool
  | .non => true
  | _ => false
theorem isNone_ok {T : Kt} {ws : Ws} {H : Hp} {d : D} {v : V} (r : Rep T ws H d v) : decide (v = .non) = isNone d := by
  cases d with
  | non => cases r; rfl
  | bl _ => cases r; rfl
  | int _ => cases r; rfl
  | str _ => cases r; rfl
  | lst _ => obtain ⟨a, xs, rfl, _⟩ := r; rfl
  | tup _ => obtain ⟨a, xs, rfl, _⟩ := r; rfl
  | own _ => obtain ⟨a, _, rfl⟩ := r; rfl
  | lck _ => obtain ⟨a, xs, rfl, _⟩ := r; rfl
  | ins _ _ _ => obtain ⟨a, dx, fs, rfl, _⟩ := r; rfl
  | dct _ _ _ => obtain ⟨a, rfl, _⟩ := r; rfl
  | set _ _ => obtain ⟨a, rfl, _⟩ := r; rfl
  | fn _ => cases r; rfl
def isN (s : Sto) (x y : D) : Option D := match y with
  | .non => some (.bl (isNone x))
  | _ => none
def isNN (s : Sto) (x y : D) : Option D := match y with
  | .non => some (.bl (!isNone x))
  | _ => none
theorem ops_isN {T : Kt} : OpS T (fun x y H Q => y = .non ∧ Q (.bl (decide (x = .non))) H) isN := fun ws H s x y z v u Q S r1 r2 e q => by
  unfold isN at e
  split at e
  · cases e
    cases r2
    refine ⟨rfl, ?_⟩
    rw [isNone_ok r1]
    exact q _ ws H (Stp.refl _ _) S rfl
  · cases e
theorem ops_isNN {T : Kt} : OpS T (fun x y H Q => y = .non ∧ Q (.bl (!decide (x = .non))) H) isNN := fun ws H s x y z v u Q S r1 r2 e q => by
  unfold isNN at e
  split at e
  · cases e
    cases r2
    refine ⟨rfl, ?_⟩
    rw [isNone_ok r1]
    exact q _ ws H (Stp.refl _ _) S rfl
  · cases e

/-! ### == -/
mutual
def toPy : D → Option PyData
  | .non => some .none
  | .bl b => some (.bool b)
  | .int i => some (.int i)
  | .str x => some (.str x)
  | .lst ds => match toPys ds with
    | some es => some (.list es)
    | none => none
  | .lck ds => match toPys ds with
    | some es => some (.list es)
    | none => none
  | .tup ds => match toPys ds with
    | some es => some (.tuple es)
    | none => none
  | _ => none
def toPys : List D → Option (List PyData)
  | [] => some []
  | d :: ds => match toPy d, toPys ds with
    | some e, some es => some (e :: es)
    | _, _ => none
end
mutual
theorem toPy_ok {T : Kt} {ws : Ws} {H : Hp} : ∀ (d : D) (v : V) (p : PyData), Rep T ws (mask ws H) d v → toPy d = some p → Dp T.K H v p
  | .non, _, _, r, e => by cases r; cases e; exact .non
  | .bl _, _, _, r, e => by cases r; cases e; exact .bl _
  | .int _, _, _, r, e => by cases r; cases e; exact .int _
  | .str _, _, _, r, e => by cases r; cases e; exact .str _
  | .lst ds, _, p, r, e => by
    obtain ⟨a, xs, rfl, h, k⟩ := r
    unfold toPy at e
    split at e
    · rename_i es h2
      cases e
      exact .lst (.of (mask_some h).2) (toPys_ok ds xs _ k h2)
    · cases e
  | .lck ds, _, p, r, e => by
    obtain ⟨a, xs, rfl, h, k⟩ := r
    unfold toPy at e
    split at e
    · rename_i es h2
      cases e
      exact .lst (sqL_un h) (toPys_ok ds xs _ k h2)
    · cases e
  | .tup ds, _, p, r, e => by
    obtain ⟨a, xs, rfl, h, k⟩ := r
    unfold toPy at e
    split at e
    · rename_i es h2
      cases e
      exact .tup (sqT_un h) (toPys_ok ds xs _ k h2)
    · cases e
  | .own _, _, _, _, e => by cases e
  | .ins _ _ _, _, _, _, e => by cases e
  | .dct _ _ _, _, _, _, e => by cases e
  | .set _ _, _, _, _, e => by cases e
  | .fn _, _, _, _, e => by cases e
theorem toPys_ok {T : Kt} {ws : Ws} {H : Hp} : ∀ (ds : List D) (vs : List V) (ps : List PyData), Reps T ws (mask ws H) ds vs → toPys ds = some ps → DpAll T.K H vs ps
  | [], _, _, r, e => by cases r; cases e; exact .nil
  | d :: ds, _, ps, r, e => by
    obtain ⟨v, w, rfl, r1, r2⟩ := r
    unfold toPys at e
    split at e
    · rename_i e1 e2 h1 h2
      cases e
      exact .cons (toPy_ok d v _ r1 h1) (toPys_ok ds w _ r2 h2)
    · cases e
end
/-- what an owned list holds, as a list -/
def dr (s : Sto) : D → D
  | .own l => match lstAt s l with
    | some ds => .lst ds
    | none => .own l
  | d => d
theorem dr_ok {T : Kt} {ws : Ws} {H : Hp} {s : Sto} {d : D} {v : V} {p : PyData} (S : Sta T ws H s) (r : Rep T ws (mask ws H) d v) (e : toPy (dr s d) = some p) : Dp T.K H v p := by
  cases d with
  | own l =>
    unfold dr at e
    split at e
    · rename_i d l' e1
      cases e1
      obtain ⟨a, h1, rfl⟩ := r
      split at e
      · rename_i ds h2
        obtain ⟨xs, h3, h4⟩ := S.lst h1 h2
        unfold toPy at e
        split at e
        · rename_i es h5
          cases e
          exact .lst (.of h3) (toPys_ok ds xs _ h4 h5)
        · cases e
      · cases e
    · rename_i h
      exact absurd rfl (h _)
  | _ => exact toPy_ok _ v p r e
def scD : D → D → Option Bool
  | .int i, .int j => some (decide (i = j))
  | .str i, .str j => some (decide (i = j))
  | .bl i, .bl j => some (decide (i = j))
  | .non, .non => some true
  | .int _, .str _ => some false
  | .str _, .int _ => some false
  | .non, .int _ => some false
  | .int _, .non => some false
  | .non, .str _ => some false
  | .str _, .non => some false
  | .non, .bl _ => some false
  | .bl _, .non => some false
  | .bl _, .str _ => some false
  | .str _, .bl _ => some false
  | _, _ => none
def eqB (s : Sto) (x y : D) : Option Bool := match scD x y with
  | some b => some b
  | none => match toPy (dr s x), toPy (dr s y) with
    | some d, some e => if SeqAt.shaped d = true ∧ SeqAt.shaped e = true then some (PyData.eqv d e) else none
    | _, _ => none
def eqD (s : Sto) (x y : D) : Option D := (eqB s x y).map .bl
def neD (s : Sto) (x y : D) : Option D := (eqB s x y).map fun b => .bl (!b)
theorem scD_ok {T : Kt} {ws : Ws} {H : Hp} {x y : D} {v u : V} {b : Bool} (r1 : Rep T ws H x v) (r2 : Rep T ws H y u) (e : scD x y = some b) : scal v u = true ∧ decide (v = u) = b := by
  unfold scD at e
  split at e <;> first
    | cases e; done
    | (cases r1; cases r2; cases e; first
        | exact ⟨rfl, rfl⟩
        | (refine ⟨rfl, ?_⟩; refine decide_eq_decide.mpr ⟨fun h => ?_, fun h => ?_⟩; (injection h); (rw [h])))
theorem ops_eq {T : Kt} : OpS T (fun x y H Q => rEq x y H Q ∨ rEqD T.K x y H Q) eqD := fun ws H s x y z v u Q S r1 r2 e q => by
  obtain ⟨b, e', rfl⟩ := Option.map_eq_some_iff.mp e
  clear e
  have e := e'
  unfold eqB at e
  split at e
  · rename_i b' h
    cases e
    obtain ⟨h1, h2⟩ := scD_ok r1 r2 h
    refine .inl ⟨h1, ?_⟩
    rw [h2]
    exact q _ ws H (Stp.refl _ _) S rfl
  · split at e
    · rename_i d1 d2 h1 h2
      split at e
      · rename_i hs
        cases e
        exact .inr ⟨d1, d2, dr_ok S r1 h1, dr_ok S r2 h2, hs.1, hs.2, q _ ws H (Stp.refl _ _) S rfl⟩
      · cases e
    · cases e
theorem ops_ne {T : Kt} : OpS T (fun x y H Q => rNe x y H Q ∨ rNeD T.K x y H Q) neD := fun ws H s x y z v u Q S r1 r2 e q => by
  obtain ⟨b, e', rfl⟩ := Option.map_eq_some_iff.mp e
  clear e
  have e := e'
  unfold eqB at e
  split at e
  · rename_i b' h
    cases e
    obtain ⟨h1, h2⟩ := scD_ok r1 r2 h
    refine .inl ⟨h1, ?_⟩
    rw [h2]
    exact q _ ws H (Stp.refl _ _) S rfl
  · split at e
    · rename_i d1 d2 h1 h2
      split at e
      · rename_i hs
        cases e
        exact .inr ⟨d1, d2, dr_ok S r1 h1, dr_ok S r2 h2, hs.1, hs.2, q _ ws H (Stp.refl _ _) S rfl⟩
      · cases e
    · cases e
/-- a place for calls -/
def Rm (X : Cx) : Prop := X.A.units + 64 < cLine
theorem op_eqU {X : Cx} (hu : Rm X) : OpR X (compareOp .Eq) (fun x y H Q => rEq x y H Q ∨ rEqD X.K x y H Q) := op_eq.or (op_eqD hu)
theorem op_neU {X : Cx} (hu : Rm X) : OpR X (compareOp .NotEq) (fun x y H Q => rNe x y H Q ∨ rNeD X.K x y H Q) := op_ne.or (op_neD hu)

/-! ### xs[i] -/
def ixD (s : Sto) (x y : D) : Option D := match y with
  | .int i => match x with
    | .tup ds => atI ds i
    | .str z => if z.length ≤ LIM then (atI z.cps.toList i).map fun c => .str ⟨#[c]⟩ else none
    | _ => (itL s x).bind fun ds => atI ds i
  | _ => none
theorem atI_reps {T : Kt} {ws : Ws} {H : Hp} {ds : List D} {vs : List V} {i : Int} {d : D} (r : Reps T ws H ds vs) (h : atI ds i = some d) : ∃ v, atI vs i = some v ∧ Rep T ws H d v := by
  unfold atI at h ⊢
  rw [r.length] at h
  cases e : ixN vs.length i with
  | none => rw [e] at h; cases h
  | some j => rw [e] at h; exact r.get h
theorem ops_ix {T : Kt} : OpS T (rIx T.K) ixD := fun ws H s x y z v u Q S r1 r2 e q => by
  unfold ixD at e
  split at e
  · rename_i i
    cases r2
    split at e
    · rename_i ds
      obtain ⟨a, xs, rfl, h1, k1⟩ := r1
      obtain ⟨w, e1, rw'⟩ := atI_reps k1 e
      exact .inr (.inl ⟨a, xs, i, w, rfl, rfl, sqT_un h1, e1, q _ ws H (Stp.refl _ _) S rw'⟩)
    · split at e
      · rename_i hl
        obtain ⟨c, e1, rfl⟩ := Option.map_eq_some_iff.mp e
        cases r1
        exact .inr (.inr ⟨_, i, c, rfl, rfl, lim_sz hl, e1, q _ ws H (Stp.refl _ _) S rfl⟩)
      · cases e
    · cases h : itL s x with
      | none => rw [h] at e; cases e
      | some ds =>
        rw [h] at e
        obtain ⟨a, xs, rfl, h1, k1⟩ := itL_ok S r1 h
        obtain ⟨w, e1, rw'⟩ := atI_reps k1 e
        exact .inl ⟨a, xs, i, w, rfl, rfl, h1, e1, q _ ws H (Stp.refl _ _) S rw'⟩
  · cases e
end
end VM
set_option Elab.async false
set_option maxRecDepth 100000
set_option maxHeartbeats 4000000
set_option linter.all false
set_option autoImplicit false
namespace VM
open PySem L2
noncomputable section

/-! ### truth -/
def truD (s : Sto) : D → Option Bool
  | .non => some false
  | .bl b => some b
  | .int i => some (i != 0)
  | .str y => if y.length ≤ LIM then some ((y.length : Int) != 0) else none
  | .lst ds => some (!ds.isEmpty)
  | .lck ds => some (!ds.isEmpty)
  | .tup ds => some (!ds.isEmpty)
  | .own l => (lstAt s l).map fun ds => !ds.isEmpty
  | _ => none
theorem reps_empty {T : Kt} {ws : Ws} {H : Hp} {ds : List D} {xs : List V} (r : Reps T ws H ds xs) : ds.isEmpty = xs.isEmpty := by
  have := r.length
  cases ds with
  | nil => cases xs with
    | nil => rfl
    | cons _ _ => cases this
  | cons _ _ => cases xs with
    | nil => cases this
    | cons _ _ => rfl
theorem truD_ok {T : Kt} {ws : Ws} {H : Hp} {s : Sto} {d : D} {v : V} {b : Bool} (S : Sta T ws H s) (r : Rep T ws (mask ws H) d v) (h : truD s d = some b) : TruV T.K v H b := by
  cases d with
  | non => cases r; cases h; rfl
  | bl x => cases r; cases h; rfl
  | int i => cases r; cases h; rfl
  | str y =>
    cases r
    have h : (if y.length ≤ LIM then some ((y.length : Int) != 0) else none) = some b := h
    split at h
    · rename_i hl
      cases h
      exact ⟨lim_sz hl, rfl⟩
    · cases h
  | lst ds =>
    cases h
    obtain ⟨a, xs, rfl, h1, h2⟩ := r
    exact .inl ⟨xs, .of (mask_some h1).2, by rw [reps_empty h2]⟩
  | lck ds =>
    cases h
    obtain ⟨a, xs, rfl, h1, h2⟩ := r
    exact .inl ⟨xs, sqL_un h1, by rw [reps_empty h2]⟩
  | tup ds =>
    cases h
    obtain ⟨a, xs, rfl, h1, h2⟩ := r
    exact .inr (.inl ⟨xs, sqT_un h1, by rw [reps_empty h2]⟩)
  | own l =>
    obtain ⟨a, h1, rfl⟩ := r
    obtain ⟨ds, h2, rfl⟩ := Option.map_eq_some_iff.mp h
    obtain ⟨xs, h3, h4⟩ := S.lst h1 h2
    exact .inl ⟨xs, .of h3, by rw [reps_empty h4]⟩
  | _ => cases h
def fTru (f : M D) : M Bool := bnd f fun x => got fun s => truD s x
def fBl (f : M D) : M Bool := bnd f fun x => got fun _ => match x with
  | .bl b => some b
  | _ => none

def EvO (C : Cn) (ta : TO) (f : M (Option Int)) : Prop := ∀ (ws : Ws) (H : Hp) (s : Sto) (σ : L2.St) (ρ : Rho) (r : Res (Option Int)) (Q : Option Int → Hp → Prop), Sta C.T ws H s → EnvOk C.T C.x ws H σ ρ → f ρ s = some r → XOk C ws H σ r →
  (∀ d s', r = .ok d s' → ∀ ws' H', Stp ws H ws' H' → Sta C.T ws' H' s' → Q d H') → ta σ H Q
theorem EvO.b {β : Type} {C : Cn} {ws : Ws} {H : Hp} {s : Sto} {σ : L2.St} {ρ : Rho} {r : Res β} {ta : TO} {f : M (Option Int)} {k : Option Int → M β} {Q : Option Int → Hp → Prop} (ea : EvO C ta f) (S : Sta C.T ws H s) (N : EnvOk C.T C.x ws H σ ρ) (h : bnd f k ρ s = some r) (x : XOk C ws H σ r)
    (q : ∀ d s1, k d ρ s1 = some r → ∀ ws1 H1, Stp ws H ws1 H1 → Sta C.T ws1 H1 s1 → Q d H1) : ta σ H Q := by
  unfold bnd at h
  split at h
  · rename_i d s1 e
    exact ea ws H s σ ρ _ Q S N e True.intro fun d' s' hd => by cases hd; exact q d s1 h
  · rename_i e s1 he
    cases h
    exact ea ws H s σ ρ _ Q S N he x fun d' s' hd => nomatch hd
  · cases h
section
variable {X : Cx} {C : Cn} {a b c e : Expr} {es : List Expr} {f g k : M D} {t u : M Bool} {pos p : Pos} {rest : List Expr}
theorem dt_val (h : DE X C e f) (he : ∀ whole, isTrue e X.env whole = (do let v ← whole; standAt e.pos; holding [v] (truthy v)) := by intro _; rfl) (hK : X.K = C.T.K := by rfl) : DT X C e (fTru f) :=
  let ⟨_, pa, ea⟩ := h.ex
  ⟨_, pt_truth pa he, fun ws H s σ ρ R Q S N h xx q => (ea.b) S N h xx fun x s1 h v ws1 H1 t1 S1 r1 => by
    obtain ⟨z, h2, rfl⟩ := got_some h
    exact ⟨z, hK ▸ truD_ok S1 r1 h2, q _ _ rfl ws1 H1 t1 S1⟩⟩
theorem ev_test {te : TE} {f : M D} {C : Cn} (ea : EvS C te f) : EvT C (tTest te) (fBl f) := fun ws H s σ ρ R Q S N h xx q => (ea.b) S N h xx fun x s1 h v ws1 H1 t1 S1 r1 => by
  obtain ⟨z, h2, rfl⟩ := got_some h
  split at h2
  · cases h2
    cases r1
    exact ⟨z, rfl, q _ _ rfl ws1 H1 t1 S1⟩
  · cases h2
theorem dt_cmp {op : CmpOp} {r : R2} {fa fb : M D} {gg : G2} (hr : OpR X (compareOp op) r) (ho : OpS C.T r gg) (ha : DE X C a fa) (hb : DE X C b fb) (hm : behindInMarks op b = false) : DT X C (.Compare a [op] [b] pos) (fBl (fOp gg fa fb)) :=
  let ⟨_, pa, ea⟩ := ha.ex
  let ⟨_, pb, eb⟩ := hb.ex
  ⟨_, pt_cmpR hr pa pb hm, ev_test (ev_op ea eb ho)⟩
/-- a op1 b op2 c -/
def fChain (g g' : G2) (fa fb fc : M D) : M D := bnd fa fun x => bnd fb fun y => bnd (got fun s => g s x y) fun z => match z with
  | .bl true => bnd fc fun w => got fun s => g' s y w
  | .bl false => ret (.bl false)
  | _ => got fun _ => none
theorem bnd_got {α β : Type} {f : Sto → Option α} {k : α → M β} {ρ : Rho} {s : Sto} {r : Res β} (h : bnd (got f) k ρ s = some r) : ∃ x, f s = some x ∧ k x ρ s = some r := by
  unfold bnd got at h
  cases e : f s with
  | none => rw [e] at h; cases h
  | some x => rw [e] at h; exact ⟨x, rfl, h⟩
theorem ev_chain {r r' : R2} {ta tb tc : TE} {fa fb fc : M D} {gg gg' : G2} (ho : OpS C.T r gg) (ho' : OpS C.T r' gg') (ha : EvS C ta fa) (hb : EvS C tb fb) (hc : EvS C tc fc) : EvS C (tChain r r' ta tb tc) (fChain gg gg' fa fb fc) := fun ws H s σ ρ R Q S N h xx q =>
  (ha.b) S N h xx fun x s1 h v ws1 H1 t1 S1 r1 => (hb.b) S1 (N.stp t1) h (xx.stp t1) fun y s2 h u ws2 H2 t2 S2 r2 => by
  obtain ⟨z, h3, hz⟩ := bnd_got h
  refine ho ws2 H2 _ x y z v u _ S2 (r1.stp t2) r2 h3 fun w ws3 H3 t3 S3 r3 => ?_
  have t0 := (t1.trans t2).trans t3
  split at hz
  · cases r3
    refine ⟨true, rfl, ?_⟩
    rw [if_pos rfl]
    refine (hc.b) S3 (N.stp t0) hz (xx.stp t0) fun w2 s4 h v4 ws4 H4 t4 S4 r4 => ?_
    obtain ⟨d, h5, rfl⟩ := got_some h
    exact ho' ws4 H4 _ y w2 d u v4 Q S4 ((r2.stp t3).stp t4) r4 h5 fun v5 ws5 H5 t5 S5 r5 => q _ _ rfl v5 ws5 H5 ((t0.trans t4).trans t5) S5 r5
  · cases ret_some hz
    cases r3
    refine ⟨false, rfl, ?_⟩
    rw [if_neg Bool.false_ne_true]
    exact q _ _ rfl _ ws3 H3 t0 S3 rfl
  · obtain ⟨_, z, _⟩ := got_some hz
    cases z
theorem de_chain {op op' : CmpOp} {r r' : R2} {fa fb fc : M D} {gg gg' : G2} (hr : OpR X (compareOp op) r) (ho : OpS C.T r gg) (hr' : OpR X (compareOp op') r') (ho' : OpS C.T r' gg') (ha : DE X C a fa) (hb : DE X C b fb) (hc : DE X C c fc)
    (hm : lastMarks [op, op'] [b, c] = false := by with_unfolding_all rfl) : DE X C (.Compare a [op, op'] [b, c] pos) (fChain gg gg' fa fb fc) :=
  let ⟨_, pa, ea⟩ := ha.ex
  let ⟨_, pb, eb⟩ := hb.ex
  let ⟨_, pc, ec⟩ := hc.ex
  ⟨_, pe_chain hr hr' pa pb pc hm, ev_chain ho ho' ea eb ec⟩
theorem dt_chain {op op' : CmpOp} {r r' : R2} {fa fb fc : M D} {gg gg' : G2} (hr : OpR X (compareOp op) r) (ho : OpS C.T r gg) (hr' : OpR X (compareOp op') r') (ho' : OpS C.T r' gg') (ha : DE X C a fa) (hb : DE X C b fb) (hc : DE X C c fc)
    (hm : lastMarks [op, op'] [b, c] = false := by with_unfolding_all rfl) : DT X C (.Compare a [op, op'] [b, c] pos) (fBl (fChain gg gg' fa fb fc)) :=
  let ⟨_, pa, ea⟩ := ha.ex
  let ⟨_, pb, eb⟩ := hb.ex
  let ⟨_, pc, ec⟩ := hc.ex
  ⟨_, pt_chain hr hr' pa pb pc hm, ev_test (ev_chain ho ho' ea eb ec)⟩

/-! ### and, or, not as tests -/
def fAndT (t u : M Bool) : M Bool := bnd t fun x => if x = true then u else ret false
def fOrT (t u : M Bool) : M Bool := bnd t fun x => if x = true then ret true else u
def fNotT (t : M Bool) : M Bool := bnd t fun x => ret (!x)
theorem dw_and1 (h : DT X C a t) : DW X C (.BoolOp .And [a] pos) t := let ⟨_, pa, ea⟩ := h.ex; ⟨_, pw_and1 pa, ea⟩
theorem dw_or1 (h : DT X C a t) : DW X C (.BoolOp .Or [a] pos) t := let ⟨_, pa, ea⟩ := h.ex; ⟨_, pw_or1 pa, ea⟩
theorem dw_and (ha : DT X C a t) (hb : DW X C (.BoolOp .And (b :: rest) pos) u) : DW X C (.BoolOp .And (a :: b :: rest) pos) (fAndT t u) :=
  let ⟨_, pa, ea⟩ := ha.ex
  let ⟨_, pb, eb⟩ := hb.ex
  ⟨_, pw_and pa pb, fun ws H s σ ρ R Q S N h xx q => (ea.b) S N h xx fun x s1 h ws1 H1 t1 S1 => by
    split at h
    · rename_i hx
      rw [if_pos hx]
      exact eb ws1 H1 s1 σ ρ R Q S1 (N.stp t1) h (xx.stp t1) fun d s' e ws2 H2 t2 S2 => q d s' e ws2 H2 (t1.trans t2) S2
    · rename_i hx
      rw [if_neg hx]
      cases ret_some h
      exact q _ _ rfl ws1 H1 t1 S1⟩
theorem dw_or (ha : DT X C a t) (hb : DW X C (.BoolOp .Or (b :: rest) pos) u) : DW X C (.BoolOp .Or (a :: b :: rest) pos) (fOrT t u) :=
  let ⟨_, pa, ea⟩ := ha.ex
  let ⟨_, pb, eb⟩ := hb.ex
  ⟨_, pw_or pa pb, fun ws H s σ ρ R Q S N h xx q => (ea.b) S N h xx fun x s1 h ws1 H1 t1 S1 => by
    split at h
    · rename_i hx
      rw [if_pos hx]
      cases ret_some h
      exact q _ _ rfl ws1 H1 t1 S1
    · rename_i hx
      rw [if_neg hx]
      exact eb ws1 H1 s1 σ ρ R Q S1 (N.stp t1) h (xx.stp t1) fun d s' e ws2 H2 t2 S2 => q d s' e ws2 H2 (t1.trans t2) S2⟩
theorem dt_not (ha : DT X C a t) : DT X C (.UnaryOp .Not a pos) (fNotT t) :=
  let ⟨_, pa, ea⟩ := ha.ex
  ⟨_, pt_not pa, fun ws H s σ ρ R Q S N h xx q => (ea.b) S N h xx fun x s1 h ws1 H1 t1 S1 => by
    cases ret_some h
    exact q _ _ rfl ws1 H1 t1 S1⟩

/-! ### and, or, not as values -/
def fAnd (f g : M D) : M D := bnd f fun x => bnd (got fun s => truD s x) fun b => if b = true then g else ret x
def fOr (f g : M D) : M D := bnd f fun x => bnd (got fun s => truD s x) fun b => if b = true then ret x else g
def fNot (f : M D) : M D := bnd f fun x => got fun s => (truD s x).map fun b => .bl (!b)
theorem de_one {op} (h : DE X C a f) : DE X C (.BoolOp op [a] pos) f := let ⟨_, pa, ea⟩ := h.ex; ⟨_, pe_one pa, ea⟩
theorem de_and (ha : DE X C a f) (hb : DE X C (.BoolOp .And (b :: rest) pos) g) (hK : X.K = C.T.K := by rfl) : DE X C (.BoolOp .And (a :: b :: rest) pos) (fAnd f g) :=
  let ⟨_, pa, ea⟩ := ha.ex
  let ⟨_, pb, eb⟩ := hb.ex
  ⟨_, pe_andT pa pb, fun ws H s σ ρ R Q S N h xx q => (ea.b) S N h xx fun x s1 h v ws1 H1 t1 S1 r1 => by
    obtain ⟨y, h2, hz⟩ := bnd_got h
    refine ⟨y, hK ▸ truD_ok S1 r1 h2, ?_⟩
    split at hz
    · rename_i hx
      rw [if_pos hx]
      exact eb ws1 H1 _ σ ρ R Q S1 (N.stp t1) hz (xx.stp t1) fun d s' e w ws2 H2 t2 S2 r2 => q d s' e w ws2 H2 (t1.trans t2) S2 r2
    · rename_i hx
      rw [if_neg hx]
      cases ret_some hz
      exact q _ _ rfl v ws1 H1 t1 S1 r1⟩
theorem de_or (ha : DE X C a f) (hb : DE X C (.BoolOp .Or (b :: rest) pos) g) (hK : X.K = C.T.K := by rfl) : DE X C (.BoolOp .Or (a :: b :: rest) pos) (fOr f g) :=
  let ⟨_, pa, ea⟩ := ha.ex
  let ⟨_, pb, eb⟩ := hb.ex
  ⟨_, pe_orT pa pb, fun ws H s σ ρ R Q S N h xx q => (ea.b) S N h xx fun x s1 h v ws1 H1 t1 S1 r1 => by
    obtain ⟨y, h2, hz⟩ := bnd_got h
    refine ⟨y, hK ▸ truD_ok S1 r1 h2, ?_⟩
    split at hz
    · rename_i hx
      rw [if_pos hx]
      cases ret_some hz
      exact q _ _ rfl v ws1 H1 t1 S1 r1
    · rename_i hx
      rw [if_neg hx]
      exact eb ws1 H1 _ σ ρ R Q S1 (N.stp t1) hz (xx.stp t1) fun d s' e w ws2 H2 t2 S2 r2 => q d s' e w ws2 H2 (t1.trans t2) S2 r2⟩
theorem de_not (ha : DE X C a f) (hK : X.K = C.T.K := by rfl) : DE X C (.UnaryOp .Not a pos) (fNot f) :=
  let ⟨_, pa, ea⟩ := ha.ex
  ⟨_, pe_notT pa, fun ws H s σ ρ R Q S N h xx q => (ea.b) S N h xx fun x s1 h v ws1 H1 t1 S1 r1 => by
    obtain ⟨z, h2, rfl⟩ := got_some h
    obtain ⟨y, h3, rfl⟩ := Option.map_eq_some_iff.mp h2
    exact ⟨y, hK ▸ truD_ok S1 r1 h3, q _ _ rfl _ ws1 H1 t1 S1 rfl⟩⟩
def fIf (t : M Bool) (f g : M D) : M D := bnd t fun b => if b = true then f else g
theorem de_if (hc : DT X C c t) (ha : DE X C a f) (hb : DE X C b g) : DE X C (.IfExp c a b pos) (fIf t f g) :=
  let ⟨_, pc, ec⟩ := hc.ex
  let ⟨_, pa, ea⟩ := ha.ex
  let ⟨_, pb, eb⟩ := hb.ex
  ⟨_, pe_ifExp pc pa pb, fun ws H s σ ρ R Q S N h xx q => (ec.b) S N h xx fun x s1 h ws1 H1 t1 S1 => by
    split at h
    · rename_i hx
      rw [if_pos hx]
      exact ea ws1 H1 s1 σ ρ R Q S1 (N.stp t1) h (xx.stp t1) fun d s' e w ws2 H2 t2 S2 r2 => q d s' e w ws2 H2 (t1.trans t2) S2 r2
    · rename_i hx
      rw [if_neg hx]
      exact eb ws1 H1 s1 σ ρ R Q S1 (N.stp t1) h (xx.stp t1) fun d s' e w ws2 H2 t2 S2 r2 => q d s' e w ws2 H2 (t1.trans t2) S2 r2⟩
/-- -a -/
def negD : D → Option D
  | .int i => some (.int (-i))
  | _ => none
def fNeg (f : M D) : M D := bnd f fun x => got fun _ => negD x
theorem de_neg (ha : DE X C a f) : DE X C (.UnaryOp .USub a pos) (fNeg f) :=
  let ⟨_, pa, ea⟩ := ha.ex
  ⟨_, pe_un un_neg pa, fun ws H s σ ρ R Q S N h xx q => (ea.b) S N h xx fun x s1 h v ws1 H1 t1 S1 r1 => by
    obtain ⟨z, h2, rfl⟩ := got_some h
    unfold negD at h2
    split at h2
    · cases h2
      cases r1
      exact ⟨_, rfl, q _ _ rfl _ ws1 H1 t1 S1 rfl⟩
    · cases h2⟩

/-! ### arguments, displays -/
def fNil : M (List D) := ret []
def fCons (f : M D) (r : M (List D)) : M (List D) := bnd f fun x => bnd r fun xs => ret (x :: xs)
theorem da_nil : DA X C [] fNil := ⟨_, pa_nil, fun ws H s σ ρ R Q S N h xx q => by
  cases ret_some h
  exact q _ _ rfl _ ws H (Stp.refl _ _) S rfl⟩
theorem da_cons {r : M (List D)} (ha : DE X C e f) (hr : DA X C es r) (hs : starEach (e :: es) X.env = (false, eval e X.env) :: starEach es X.env := by rfl) : DA X C (e :: es) (fCons f r) :=
  let ⟨_, pa, ea⟩ := ha.ex
  let ⟨_, pr, er⟩ := hr.ex
  ⟨_, pa_cons pa pr hs, fun ws H s σ ρ R Q S N h xx q => (ea.b) S N h xx fun x s1 h v ws1 H1 t1 S1 r1 => (er.b) S1 (N.stp t1) h (xx.stp t1) fun xs s2 h vs ws2 H2 t2 S2 r2 => by
    cases ret_some h
    exact q _ _ rfl _ ws2 H2 (t1.trans t2) S2 ⟨v, vs, rfl, r1.stp t2, r2⟩⟩
def fTup (r : M (List D)) : M D := bnd r fun xs => got fun _ => if xs.length ≤ LIM then some (.tup xs) else none
def fLst (r : M (List D)) : M D := bnd r fun xs => got fun _ => if xs.length ≤ LIM then some (.lst xs) else none
theorem de_tup {r : M (List D)} {x1} (hr : DA X C es r) : DE X C (.Tuple es x1 pos) (fTup r) :=
  let ⟨_, pr, er⟩ := hr.ex
  ⟨_, pe_tup pr, fun ws H s σ ρ R Q S N h xx q => (er.b) S N h xx fun xs s1 h vs ws1 H1 t1 S1 r1 => by
    obtain ⟨z, h2, rfl⟩ := got_some h
    split at h2
    · rename_i hl
      cases h2
      refine ⟨lim_sz (by rw [← r1.length]; exact hl), fun p hp => ?_⟩
      have t2 : Stp ws1 H1 ws1 (upd H1 p (.tup vs)) := S1.stp_new hp
      exact q _ _ rfl _ ws1 _ (t1.trans t2) (S1.new hp) ⟨p, vs, rfl, .of (S1.at_new hp), r1.stp t2⟩
    · cases h2⟩
theorem de_lst {r : M (List D)} (hr : DA X C es r) : DE X C (.List es pos) (fLst r) :=
  let ⟨_, pr, er⟩ := hr.ex
  ⟨_, pe_lst pr, fun ws H s σ ρ R Q S N h xx q => (er.b) S N h xx fun xs s1 h vs ws1 H1 t1 S1 r1 => by
    obtain ⟨z, h2, rfl⟩ := got_some h
    split at h2
    · rename_i hl
      cases h2
      refine ⟨lim_sz (by rw [← r1.length]; exact hl), fun p hp => ?_⟩
      have t2 : Stp ws1 H1 ws1 (upd H1 p (.lst vs)) := S1.stp_new hp
      exact q _ _ rfl _ ws1 _ (t1.trans t2) (S1.new hp) ⟨p, vs, rfl, S1.at_new hp, r1.stp t2⟩
    · cases h2⟩
/-- a list that is owned from now on -/
def fOwn (r : M (List D)) : M D := bnd r fun xs => fun _ s => if xs.length ≤ LIM then some (.ok (.own s.length) (s ++ [.lst xs])) else none
theorem rep_last {T : Kt} {ws : Ws} {H : Hp} {s : Sto} {p : Addr} {M : Hp} (S : Sta T ws H s) : Rep T (ws.add p) M (.own s.length) (.ref p) := by
  refine ⟨p, ?_, rfl⟩
  rw [List.getElem?_append_right (by rw [S.len]; exact Nat.le_refl _), S.len, Nat.sub_self]
  rfl
theorem de_own {r : M (List D)} (hr : DA X C es r) : DE X C (.List es pos) (fOwn r) :=
  let ⟨_, pr, er⟩ := hr.ex
  ⟨_, pe_lst pr, fun ws H s σ ρ R Q S N h xx q => (er.b) S N h xx fun xs s1 h vs ws1 H1 t1 S1 r1 => by
    split at h
    · rename_i hl
      cases h
      refine ⟨lim_sz (by rw [← r1.length]; exact hl), fun p hp => ?_⟩
      have t2 : Stp ws1 H1 (ws1.add p) (upd H1 p (.lst vs)) := S1.stp_own hp
      exact q _ _ rfl _ (ws1.add p) _ (t1.trans t2) (S1.newOwn (so := .lst xs) hp r1) (rep_last S1)
    · cases h⟩

/-! ### xs[i], xs[a:b] -/
theorem de_ix {fa fb : M D} (ha : DE X C a fa) (hb : DE X C b fb) (hs : PlainIx b := by intro _ _; rfl) (hK : X.K = C.T.K := by rfl) : DE X C (.Subscript a b pos) (fOp ixD fa fb) :=
  let ⟨_, pa, ea⟩ := ha.ex
  let ⟨_, pb, eb⟩ := hb.ex
  ⟨_, pe_ix ix_seq pa pb hs, ev_op ea eb (hK ▸ ops_ix)⟩
def cutD (ds : List D) (lo hi : Option Int) : List D := (ds.drop (HT.sIx ds.length 0 lo)).take (HT.sIx ds.length ds.length hi - HT.sIx ds.length 0 lo)
theorem reps_cut {T : Kt} {ws : Ws} {H : Hp} {ds : List D} {xs : List V} (r : Reps T ws H ds xs) (lo hi : Option Int) : Reps T ws H (cutD ds lo hi) (cutV xs lo hi) := by
  unfold cutD cutV
  rw [r.length]
  exact (r.drop _).take _
def slD (s : Sto) (x : D) (lo hi : Option Int) : Option D := match x with
  | .tup ds => some (.tup (cutD ds lo hi))
  | .str z => if z.length ≤ LIM then some (.str (cutS z lo hi)) else none
  | _ => (itL s x).map fun ds => .lst (cutD ds lo hi)
structure DO' (X : Cx) (C : Cn) (e : Option Expr) (f : M (Option Int)) : Prop where
  ex : ∃ ta, PO X e ta ∧ EvO C ta f
def fPart (f : M D) : M (Option Int) := bnd f fun x => got fun _ => match x with
  | .int i => some (some i)
  | _ => none
theorem do_none : DO' X C none (ret none) := ⟨_, po_none, fun ws H s σ ρ R Q S N h xx q => by
  cases ret_some h
  exact q _ _ rfl ws H (Stp.refl _ _) S⟩
theorem do_some (h : DE X C e f) : DO' X C (some e) (fPart f) :=
  let ⟨_, pa, ea⟩ := h.ex
  ⟨_, po_some pa, fun ws H s σ ρ R Q S N h xx q => (ea.b) S N h xx fun x s1 h v ws1 H1 t1 S1 r1 => by
    obtain ⟨z, h2, rfl⟩ := got_some h
    split at h2
    · cases h2
      cases r1
      exact ⟨_, rfl, q _ _ rfl ws1 H1 t1 S1⟩
    · cases h2⟩
def fSl (f : M D) (lo hi : M (Option Int)) : M D := bnd f fun x => bnd lo fun l => bnd hi fun h => got fun s => slD s x l h
theorem de_slice {lo hi : Option Expr} {fl fh : M (Option Int)} {p2 : Pos} (ha : DE X C e f) (hl : DO' X C lo fl) (hh : DO' X C hi fh) (hK : X.K = C.T.K := by rfl) : DE X C (.Subscript e (.Slice lo hi none p2) pos) (fSl f fl fh) :=
  let ⟨_, pa, ea⟩ := ha.ex
  let ⟨_, pl, el⟩ := hl.ex
  let ⟨_, ph, eh⟩ := hh.ex
  ⟨_, pe_slice (sl_tupA.or (sl_str.or sl_list)) pa pl ph, fun ws H s σ ρ R Q S N h xx q =>
    (ea.b) S N h xx fun x s1 ha v ws1 H1 t1 S1 r1 => (el.b) S1 (N.stp t1) ha (xx.stp t1) fun lo' s2 hb ws2 H2 t2 S2 => (eh.b) S2 ((N.stp t1).stp t2) hb ((xx.stp t1).stp t2) fun hi' s3 hc ws3 H3 t3 S3 => by
    obtain ⟨z, h4, rfl⟩ := got_some hc
    have r3 := (r1.stp t2).stp t3
    have t0 := (t1.trans t2).trans t3
    unfold slD at h4
    split at h4
    · rename_i ds
      cases h4
      obtain ⟨p, xs, rfl, k1, k2⟩ := r3
      refine .inl ⟨p, xs, rfl, hK ▸ sqT_un k1, fun hw => ?_, fun _ p' hp => ?_⟩
      · refine q _ _ rfl _ ws3 H3 t0 S3 ⟨p, xs, rfl, k1, ?_⟩
        have : cutD ds lo' hi' = ds := by
          unfold cutD
          rw [k2.length, hw.1, hw.2, List.drop_zero, Nat.sub_zero, ← k2.length, List.take_length]
        rw [this]
        exact k2
      · have t4 : Stp ws3 H3 ws3 (upd H3 p' (.tup (cutV xs lo' hi'))) := S3.stp_new hp
        exact q _ _ rfl _ ws3 _ (t0.trans t4) (S3.new hp) ⟨p', _, rfl, .of (S3.at_new hp), (reps_cut k2 _ _).stp t4⟩
    · split at h4
      · rename_i hz
        cases h4
        cases r3
        exact .inr (.inl ⟨_, rfl, lim_sz hz, q _ _ rfl _ ws3 H3 t0 S3 rfl⟩)
      · cases h4
    · obtain ⟨ds, h7, rfl⟩ := Option.map_eq_some_iff.mp h4
      obtain ⟨p, xs, rfl, k1, k2⟩ := itL_ok S3 r3 h7
      refine .inr (.inr ⟨p, xs, rfl, hK ▸ k1, fun p' hp => ?_⟩)
      have t4 : Stp ws3 H3 ws3 (upd H3 p' (.lst (cutV xs lo' hi'))) := S3.stp_new hp
      exact q _ _ rfl _ ws3 _ (t0.trans t4) (S3.new hp) ⟨p', _, rfl, S3.at_new hp, (reps_cut k2 _ _).stp t4⟩⟩

/-! ### built-ins -/
abbrev GC := Sto → List D → Option D
def CallS (T : Kt) (r : List V → Hp → VK → Prop) (g : GC) : Prop := ∀ (ws : Ws) (H : Hp) (s : Sto) (xs : List D) (z : D) (vs : List V) (Q : VK), Sta T ws H s → Reps T ws (mask ws H) xs vs → g s xs = some z →
  (∀ w ws' H', Stp ws H ws' H' → Sta T ws' H' s → Rep T ws' (mask ws' H') z w → Q w H') → r vs H Q
def fCB (g : GC) (fa : M (List D)) : M D := bnd fa fun xs => got fun s => g s xs
theorem ev_cb {r : List V → Hp → VK → Prop} {gg : GC} {ta : TA} {fa : M (List D)} (ho : CallS C.T r gg) (ea : EvA C ta fa) : EvS C (tCB r ta) (fCB gg fa) := fun ws H s σ ρ R Q S N h xx q => (ea.b) S N h xx fun xs s1 h vs ws1 H1 t1 S1 r1 => by
  obtain ⟨z, h2, rfl⟩ := got_some h
  exact ho ws1 H1 _ xs z vs Q S1 r1 h2 fun w ws2 H2 t2 S2 r2 => q _ _ rfl w ws2 H2 (t1.trans t2) S2 r2
theorem de_callB {x : Str} {id : String} {r : List V → Hp → VK → Prop} {gg : GC} {fa : M (List D)} (hc : CallR X (.builtin id) r) (ho : CallS C.T r gg) (hm : X.mg x = none) (hv : bootBuiltins x = some (.builtin id)) (ha : DA X C (e :: es) fa) (hg : Gl X x := by rfl)
    (hn : x ≠ "__name__" := by decide) (hdb : (x == ("__debug__" : Str)) = false := by decide)
    (he : starEach (e :: es) X.env = (false, eval e X.env) :: starEach es X.env := by rfl) (hpl : (backTo pos (starEach es X.env)).any (·.1) = false := by rfl) : DE X C (.Call (.Name x p) (e :: es) [] pos) (fCB gg fa) :=
  let ⟨_, pa, ea⟩ := ha.ex
  ⟨_, pe_callB hc hg hm hv pa hn hdb he hpl, ev_cb ho ea⟩
theorem de_callTy {x : Str} {T : String} {r : List V → Hp → VK → Prop} {gg : GC} {fa : M (List D)} (hc : CallR X (.type T) r) (ho : CallS C.T r gg) (hm : X.mg x = none) (hv : bootBuiltins x = some (.type T)) (ha : DA X C (e :: es) fa) (hg : Gl X x := by rfl)
    (hn : x ≠ "__name__" := by decide) (hdb : (x == ("__debug__" : Str)) = false := by decide)
    (he : starEach (e :: es) X.env = (false, eval e X.env) :: starEach es X.env := by rfl) (hpl : (backTo pos (starEach es X.env)).any (·.1) = false := by rfl) : DE X C (.Call (.Name x p) (e :: es) [] pos) (fCB gg fa) :=
  let ⟨_, pa, ea⟩ := ha.ex
  ⟨_, pe_callTy hc hg hm hv pa hn hdb he hpl, ev_cb ho ea⟩
end
theorem reps_one {T : Kt} {ws : Ws} {H : Hp} {x : D} {vs : List V} (h : Reps T ws H [x] vs) : ∃ v, vs = [v] ∧ Rep T ws H x v := by
  obtain ⟨v, r, rfl, h1, rfl⟩ := h
  exact ⟨v, rfl, h1⟩
/-- one argument -/
def c1 (g : Sto → D → Option D) : GC := fun s xs => match xs with
  | [x] => g s x
  | _ => none
theorem c1_some {g : Sto → D → Option D} {s : Sto} {xs : List D} {z : D} (h : c1 g s xs = some z) : ∃ x, xs = [x] ∧ g s x = some z := by
  unfold c1 at h
  split at h
  · exact ⟨_, rfl, h⟩
  · cases h
section
variable {X : Cx} {T : Kt}
def lenD (s : Sto) : D → Option D
  | .str z => if z.length ≤ LIM then some (.int z.length) else none
  | .tup ds => some (.int ds.length)
  | x => (itL s x).map fun ds => .int ds.length
theorem cs_len : CallS T (fun xs H Q => ∃ x n, xs = [x] ∧ LenV T.K x H n ∧ Q (.int n) H) (c1 lenD) := fun ws H s xs z vs Q S r e q => by
  obtain ⟨x, rfl, e1⟩ := c1_some e
  obtain ⟨v, rfl, r1⟩ := reps_one r
  replace e := e1
  replace r := r1
  unfold lenD at e
  split at e
  · split at e
    · rename_i hl
      cases e
      cases r
      exact ⟨_, _, rfl, ⟨lim_sz hl, rfl⟩, q _ ws H (Stp.refl _ _) S rfl⟩
    · cases e
  · cases e
    obtain ⟨a, ys, rfl, h1, h2⟩ := r
    refine ⟨_, _, rfl, .inr ⟨ys, sqT_un h1, rfl⟩, ?_⟩
    rw [← h2.length]
    exact q _ ws H (Stp.refl _ _) S rfl
  · obtain ⟨ds, h, rfl⟩ := Option.map_eq_some_iff.mp e
    obtain ⟨a, ys, rfl, h1, h2⟩ := itL_ok S r h
    refine ⟨_, _, rfl, .inl ⟨ys, h1, rfl⟩, ?_⟩
    rw [← h2.length]
    exact q _ ws H (Stp.refl _ _) S rfl
def tupleD (s : Sto) : D → Option D
  | .tup ds => some (.tup ds)
  | x => (itL s x).map .tup
theorem cs_tuple : CallS T (fun xs H Q => ∃ p ys, xs = [.ref p] ∧ ((SqL T.K H p ys ∧ ∀ l, H l = none → Q (.ref l) (upd H l (.tup ys))) ∨ (SqT T.K H p ys ∧ Q (.ref p) H))) (c1 tupleD) := fun ws H s xs z vs Q S r e q => by
  obtain ⟨x, rfl, e1⟩ := c1_some e
  obtain ⟨v, rfl, r1⟩ := reps_one r
  replace e := e1
  replace r := r1
  unfold tupleD at e
  split at e
  · cases e
    obtain ⟨a, ys, rfl, h1, h2⟩ := r
    exact ⟨a, ys, rfl, .inr ⟨sqT_un h1, q _ ws H (Stp.refl _ _) S ⟨a, ys, rfl, h1, h2⟩⟩⟩
  · obtain ⟨ds, h, rfl⟩ := Option.map_eq_some_iff.mp e
    obtain ⟨a, ys, rfl, h1, h2⟩ := itL_ok S r h
    refine ⟨a, ys, rfl, .inl ⟨h1, fun l hl => ?_⟩⟩
    have t : Stp ws H ws (upd H l (.tup ys)) := S.stp_new hl
    exact q _ ws _ t (S.new hl) ⟨l, ys, rfl, .of (S.at_new hl), h2.stp t⟩
def listD (s : Sto) : D → Option D
  | .tup ds => some (.lst ds)
  | x => (itL s x).map .lst
theorem cs_list : CallS T (fun xs H Q => ∃ p ys, xs = [.ref p] ∧ (SqL T.K H p ys ∨ SqT T.K H p ys) ∧ ∀ l, H l = none → Q (.ref l) (upd H l (.lst ys))) (c1 listD) := fun ws H s xs z vs Q S r e q => by
  obtain ⟨x, rfl, e1⟩ := c1_some e
  obtain ⟨v, rfl, r1⟩ := reps_one r
  replace e := e1
  replace r := r1
  unfold listD at e
  split at e
  · cases e
    obtain ⟨a, ys, rfl, h1, h2⟩ := r
    refine ⟨a, ys, rfl, .inr (sqT_un h1), fun l hl => ?_⟩
    have t : Stp ws H ws (upd H l (.lst ys)) := S.stp_new hl
    exact q _ ws _ t (S.new hl) ⟨l, ys, rfl, S.at_new hl, h2.stp t⟩
  · obtain ⟨ds, h, rfl⟩ := Option.map_eq_some_iff.mp e
    obtain ⟨a, ys, rfl, h1, h2⟩ := itL_ok S r h
    refine ⟨a, ys, rfl, .inl h1, fun l hl => ?_⟩
    have t : Stp ws H ws (upd H l (.lst ys)) := S.stp_new hl
    exact q _ ws _ t (S.new hl) ⟨l, ys, rfl, S.at_new hl, h2.stp t⟩
def intsD : List D → Option (List Int)
  | [] => some []
  | .int i :: ds => (intsD ds).map (i :: ·)
  | _ => none
theorem intsD_ok {ws : Ws} {H : Hp} : ∀ {ds : List D} {vs : List V} {ns : List Int}, Reps T ws H ds vs → intsD ds = some ns → vs = ns.map V.int
  | [], _, _, r, e => by cases r; cases e; rfl
  | d :: ds, _, ns, ⟨v, w, hv, r1, r2⟩, e => by
    unfold intsD at e
    split at e
    · rename_i h; cases h
    · rename_i i ds' h
      cases h
      obtain ⟨ms, h1, rfl⟩ := Option.map_eq_some_iff.mp e
      cases r1
      rw [hv, intsD_ok r2 h1]
      rfl
    · cases e
def blsD : List D → Option (List Bool)
  | [] => some []
  | .bl i :: ds => (blsD ds).map (i :: ·)
  | _ => none
theorem blsD_ok {ws : Ws} {H : Hp} : ∀ {ds : List D} {vs : List V} {ns : List Bool}, Reps T ws H ds vs → blsD ds = some ns → vs = ns.map V.bl
  | [], _, _, r, e => by cases r; cases e; rfl
  | d :: ds, _, ns, ⟨v, w, hv, r1, r2⟩, e => by
    unfold blsD at e
    split at e
    · rename_i h; cases h
    · rename_i i ds' h
      cases h
      obtain ⟨ms, h1, rfl⟩ := Option.map_eq_some_iff.mp e
      cases r1
      rw [hv, blsD_ok r2 h1]
      rfl
    · cases e
def sumD (s : Sto) (x : D) : Option D := ((itL s x).bind intsD).map fun ns => .int ns.sum
theorem cs_sum : CallS T (rSum T.K) (c1 sumD) := fun ws H s xs z vs Q S r e q => by
  obtain ⟨x, rfl, e1⟩ := c1_some e
  obtain ⟨v, rfl, r1⟩ := reps_one r
  replace e := e1
  replace r := r1
  obtain ⟨ns, h, rfl⟩ := Option.map_eq_some_iff.mp e
  obtain ⟨ds, h3, h4⟩ := Option.bind_eq_some_iff.mp h
  obtain ⟨a, ys, rfl, h1, h2⟩ := itL_ok S r h3
  have := intsD_ok h2 h4
  subst this
  exact ⟨a, ns, rfl, h1, q _ ws H (Stp.refl _ _) S rfl⟩
def allD (s : Sto) (x : D) : Option D := ((itL s x).bind blsD).map fun ns => .bl (ns.all id)
def anyD (s : Sto) (x : D) : Option D := ((itL s x).bind blsD).map fun ns => .bl (ns.any id)
theorem cs_all : CallS T (rAll T.K) (c1 allD) := fun ws H s xs z vs Q S r e q => by
  obtain ⟨x, rfl, e1⟩ := c1_some e
  obtain ⟨v, rfl, r1⟩ := reps_one r
  replace e := e1
  replace r := r1
  obtain ⟨ns, h, rfl⟩ := Option.map_eq_some_iff.mp e
  obtain ⟨ds, h3, h4⟩ := Option.bind_eq_some_iff.mp h
  obtain ⟨a, ys, rfl, h1, h2⟩ := itL_ok S r h3
  have := blsD_ok h2 h4
  subst this
  exact ⟨a, ns, rfl, h1, q _ ws H (Stp.refl _ _) S rfl⟩
theorem cs_any : CallS T (rAny T.K) (c1 anyD) := fun ws H s xs z vs Q S r e q => by
  obtain ⟨x, rfl, e1⟩ := c1_some e
  obtain ⟨v, rfl, r1⟩ := reps_one r
  replace e := e1
  replace r := r1
  obtain ⟨ns, h, rfl⟩ := Option.map_eq_some_iff.mp e
  obtain ⟨ds, h3, h4⟩ := Option.bind_eq_some_iff.mp h
  obtain ⟨a, ys, rfl, h1, h2⟩ := itL_ok S r h3
  have := blsD_ok h2 h4
  subst this
  exact ⟨a, ns, rfl, h1, q _ ws H (Stp.refl _ _) S rfl⟩
def absD (_ : Sto) : D → Option D
  | .int i => some (.int (if i < 0 then -i else i))
  | _ => none
theorem cs_abs : CallS T (fun xs H Q => ∃ i, xs = [.int i] ∧ Q (.int (if i < 0 then -i else i)) H) (c1 absD) := fun ws H s xs z vs Q S r e q => by
  obtain ⟨x, rfl, e1⟩ := c1_some e
  obtain ⟨v, rfl, r1⟩ := reps_one r
  replace e := e1
  replace r := r1
  unfold absD at e
  split at e
  · cases e
    cases r
    exact ⟨_, rfl, q _ ws H (Stp.refl _ _) S rfl⟩
  · cases e
def intD (_ : Sto) : D → Option D
  | .int i => some (.int i)
  | .bl b => some (.int (if b then 1 else 0))
  | _ => none
theorem cs_int : CallS T (fun xs H Q => (∃ i, xs = [.int i] ∧ Q (.int i) H) ∨ ∃ k, xs = [.bl k] ∧ Q (.int (if k then 1 else 0)) H) (c1 intD) := fun ws H s xs z vs Q S r e q => by
  obtain ⟨x, rfl, e1⟩ := c1_some e
  obtain ⟨v, rfl, r1⟩ := reps_one r
  replace e := e1
  replace r := r1
  unfold intD at e
  split at e
  · cases e
    cases r
    exact .inl ⟨_, rfl, q _ ws H (Stp.refl _ _) S rfl⟩
  · cases e
    cases r
    exact .inr ⟨_, rfl, q _ ws H (Stp.refl _ _) S rfl⟩
  · cases e
end
end
end VM
set_option Elab.async false
set_option maxRecDepth 100000
set_option maxHeartbeats 4000000
set_option linter.all false
set_option autoImplicit false
namespace VM
open PySem L2
noncomputable section

/-! ### equal data -/
mutual
def sameD : D → D → Bool
  | .non, .non => true
  | .bl a, .bl b => a == b
  | .int a, .int b => a == b
  | .str a, .str b => decide (a = b)
  | .lst a, .lst b => sameDs a b
  | .tup a, .tup b => sameDs a b
  | .lck a, .lck b => sameDs a b
  | .own a, .own b => a == b
  | .ins c ns a, .ins c' ns' b => c == c' && ns == ns' && sameDs a b
  | .dct t ks a, .dct t' ks' b => t == t' && sameDs ks ks' && sameDs a b
  | .set t a, .set t' b => t == t' && sameDs a b
  | .fn a, .fn b => a == b
  | _, _ => false
def sameDs : List D → List D → Bool
  | [], [] => true
  | a :: as, b :: bs => sameD a b && sameDs as bs
  | _, _ => false
end
mutual
theorem sameD_ok : ∀ (a b : D), sameD a b = true → a = b
  | .non, b, h => by cases b <;> first | rfl | cases h
  | .bl _, b, h => by cases b <;> first | (cases h; done) | (simp [sameD] at h; rw [h])
  | .int _, b, h => by cases b <;> first | (cases h; done) | (simp [sameD] at h; rw [h])
  | .str _, b, h => by cases b <;> first | (cases h; done) | (simp [sameD] at h; rw [h])
  | .own _, b, h => by cases b <;> first | (cases h; done) | (simp [sameD] at h; rw [h])
  | .fn _, b, h => by cases b <;> first | (cases h; done) | (simp [sameD] at h; rw [h])
  | .lst as, b, h => by cases b <;> first | (cases h; done) | (rw [sameDs_ok as _ (by simpa [sameD] using h)])
  | .tup as, b, h => by cases b <;> first | (cases h; done) | (rw [sameDs_ok as _ (by simpa [sameD] using h)])
  | .lck as, b, h => by cases b <;> first | (cases h; done) | (rw [sameDs_ok as _ (by simpa [sameD] using h)])
  | .set t as, b, h => by
    cases b <;> first
      | (cases h; done)
      | (simp [sameD] at h; rw [h.1, sameDs_ok as _ h.2])
  | .ins c ns as, b, h => by
    cases b <;> first
      | (cases h; done)
      | (simp [sameD] at h; rw [h.1.1, h.1.2, sameDs_ok as _ h.2])
  | .dct t ks as, b, h => by
    cases b <;> first
      | (cases h; done)
      | (simp [sameD] at h; rw [h.1.1, sameDs_ok ks _ h.1.2, sameDs_ok as _ h.2])
theorem sameDs_ok : ∀ (a b : List D), sameDs a b = true → a = b
  | [], b, h => by cases b <;> first | rfl | cases h
  | a :: as, b, h => by
    cases b with
    | nil => cases h
    | cons b bs =>
      simp [sameDs] at h
      rw [sameD_ok a b h.1, sameDs_ok as bs h.2]
end
mutual
theorem sameD_refl : ∀ a : D, sameD a a = true
  | .non => rfl
  | .bl _ => by simp [sameD]
  | .int _ => by simp [sameD]
  | .str _ => by simp [sameD]
  | .own _ => by simp [sameD]
  | .fn _ => by simp [sameD]
  | .lst as => by simp only [sameD]; exact sameDs_refl as
  | .tup as => by simp only [sameD]; exact sameDs_refl as
  | .lck as => by simp only [sameD]; exact sameDs_refl as
  | .set t as => by simp only [sameD, beq_self_eq_true, sameDs_refl as, Bool.and_self]
  | .ins c ns as => by simp only [sameD, beq_self_eq_true, sameDs_refl as, Bool.and_self]
  | .dct t ks as => by simp only [sameD, beq_self_eq_true, sameDs_refl ks, sameDs_refl as, Bool.and_self]
theorem sameDs_refl : ∀ a : List D, sameDs a a = true
  | [] => rfl
  | a :: as => by simp only [sameDs, sameD_refl a, sameDs_refl as, Bool.and_self]
end

/-! ### isinstance -/
/-- the built-in type of a datum -/
def tyD (s : Sto) : D → Option String
  | .non => some "NoneType" | .bl _ => some "bool" | .int _ => some "int" | .str _ => some "str" | .lst _ => some "list" | .lck _ => some "list" | .tup _ => some "tuple" | .dct _ _ _ => some "dict"
  | .own l => match s[l]? with
    | some (.lst _) => some "list"
    | some (.dct _ _ _) => some "dict"
    | _ => none
  | _ => none
/-- the class number of an instance -/
def clD (s : Sto) : D → Option Nat
  | .ins c _ _ => some c
  | .own l => match s[l]? with
    | some (.ins c _ _) => some c
    | _ => none
  | _ => none
def tyN : List String := ["NoneType", "bool", "int", "str", "list", "tuple", "dict", "set"]
def isN' : TN → String → Bool
  | .int, x => x == "int" || x == "bool"
  | t, x => t.nm == x
def isT (t : TN) (s : Sto) (d : D) : Option Bool := match tyD s d with
  | some x => some (isN' t x)
  | none => (clD s d).map fun _ => false
theorem tyD_in {s : Sto} {d : D} {x : String} (h : tyD s d = some x) : x ∈ tyN := by
  unfold tyD at h
  split at h <;> first
    | (cases h; decide)
    | (split at h <;> first | (cases h; decide) | cases h)
    | cases h
theorem kit_isT {K : PySem.W.Frag} (t : TN) {x : String} (h : x ∈ tyN) : PySem.W.kitOne K (.type x) (.type t.nm) = some (isN' t x) := by
  refine L2.kit_ty ?_
  have key : ∀ x ∈ tyN, L2.kitB x t.nm = some (isN' t x) := by
    cases t <;> decide +kernel
  exact key x h
theorem tyX_ok {T : Kt} {ws : Ws} {H : Hp} {s : Sto} {d : D} {v : V} {x : String} (S : Sta T ws H s) (r : Rep T ws (mask ws H) d v) (h : tyD s d = some x) : L2.TyX T.K H v (.type x) := by
  cases d with
  | non => cases h; cases r; exact .base .non
  | bl x => cases h; cases r; exact .base (.bl x)
  | int i => cases h; cases r; exact .base (.int i)
  | str y => cases h; cases r; exact .base (.str y)
  | lst ds =>
    cases h
    obtain ⟨a, xs, rfl, h1, h2⟩ := r
    exact .base (.lst (mask_some h1).2)
  | lck ds =>
    cases h
    obtain ⟨a, xs, rfl, h1, h2⟩ := r
    rcases sqL_un h1 with (h | ⟨o, h⟩) | ⟨o, its, n, h, hc, _⟩
    · exact .base (.lst h)
    · exact .base (.frz h)
    · exact .kList h hc
  | tup ds =>
    cases h
    obtain ⟨a, xs, rfl, h1, h2⟩ := r
    rcases sqT_un h1 with (h | ⟨o, h⟩) | ⟨o, its, n, h, hc, _⟩
    · exact .base (.tup h)
    · exact .fTuple h
    · exact .kTuple h hc
  | dct t ks vs =>
    cases h
    obtain ⟨a, rfl, ⟨_, kvs, h1, _⟩ | ⟨_, kvs, h1, _⟩⟩ := r
    · exact .base (.dK (mask_some h1).2)
    · exact .base (.dT (mask_some h1).2)
  | set t ds => cases h
  | own l =>
    obtain ⟨a, h1, rfl⟩ := r
    unfold tyD at h
    dsimp only at h
    cases hl : s[l]? with
    | none => rw [hl] at h; cases h
    | some so =>
      rw [hl] at h
      obtain ⟨o, h3, h4⟩ := S.own l a _ h1 hl
      cases so with
      | lst ds => cases h; cases o <;> first | exact h4.elim | exact .base (.lst h3)
      | ins c ns vs => cases h
      | dct t ks vs => cases h; cases o <;> first | exact h4.elim | exact .base (.dK h3) | exact .base (.dT h3)
      | set t ds => cases h
  | ins c ns vs => cases h
  | fn n => cases h
theorem tyC_ok {T : Kt} {ws : Ws} {H : Hp} {s : Sto} {d : D} {v : V} {c : Nat} (S : Sta T ws H s) (r : Rep T ws (mask ws H) d v) (h : clD s d = some c) : L2.TyX T.K H v (.ref (T.ad c)) ∧ InsC T.K (T.ad c) := by
  cases d with
  | ins c ns vs =>
    cases h
    obtain ⟨a, dx, fs, rfl, h1, ⟨k, _⟩, _⟩ := r
    exact ⟨.base (.ins (mask_some h1).2 k.cl k.ha k.hn k.ht k.hm), k⟩
  | own l =>
    obtain ⟨a, h1, rfl⟩ := r
    unfold clD at h
    dsimp only at h
    cases hl : s[l]? with
    | none => rw [hl] at h; cases h
    | some so =>
      rw [hl] at h
      obtain ⟨o, h3, h4⟩ := S.own l a _ h1 hl
      cases so with
      | ins c' ns vs =>
        cases h
        cases o <;> first
          | exact h4.elim
          | (obtain ⟨e, ⟨k, _⟩, _⟩ := h4; subst e; exact ⟨.base (.ins h3 k.cl k.ha k.hn k.ht k.hm), k⟩)
      | lst ds => cases h
      | dct t ks vs => cases h
      | set t ds => cases h
  | _ => cases h
section
variable {X : Cx} {C : Cn} {a b c e : Expr} {es : List Expr} {f g k : M D} {t u : M Bool} {pos p p' : Pos} {rest : List Expr}
def fIs (t : TN) (f : M D) : M D := bnd f fun x => got fun s => (isT t s x).map .bl
theorem de_isi {x : Str} (t : TN) (ha : DE X C a f) (hm : X.mg "isinstance" = none) (hmT : X.mg x = none) (hvT : bootBuiltins x = some (.type t.nm) := by decide +kernel) (hg : Gl X "isinstance" := by rfl) (hgT : Gl X x := by rfl)
    (hn : x ≠ "__name__" := by decide) (hdb : (x == ("__debug__" : Str)) = false := by decide)
    (he : starEach [a, .Name x p'] X.env = (false, eval a X.env) :: starEach [.Name x p'] X.env := by rfl) (he2 : starEach [.Name x p'] X.env = (false, eval (.Name x p') X.env) :: starEach [] X.env := by rfl)
    (hpl : (backTo pos (starEach [.Name x p'] X.env)).any (·.1) = false := by rfl) (hK : X.K = C.T.K := by rfl) : DE X C (.Call (.Name "isinstance" p) [a, .Name x p'] [] pos) (fIs t f) :=
  let ⟨_, pa, ea⟩ := ha.ex
  ⟨_, pe_callB call_isi hg hm PyProof.Rows.boot_isinstance (pa_cons pa (pa_cons (pe_bltn (v := .ty t.nm) hgT hmT hvT rfl hn hdb) pa_nil he2) he) (by decide) (by decide) he hpl, fun ws H s σ ρ R Q S N h xx q => (ea.b) S N h xx fun x s1 h v ws1 H1 t1 S1 r1 => by
    obtain ⟨z, h2, rfl⟩ := got_some h
    obtain ⟨y, h3, rfl⟩ := Option.map_eq_some_iff.mp h2
    rw [hK]
    unfold isT at h3
    split at h3
    · rename_i nm e
      cases h3
      exact ⟨v, .ty t.nm, _, _, _, rfl, .ty _, tyX_ok S1 r1 e, kit_isT t (tyD_in e), q _ _ rfl _ ws1 H1 t1 S1 rfl⟩
    · obtain ⟨c, e, rfl⟩ := Option.map_eq_some_iff.mp h3
      obtain ⟨k1, k2⟩ := tyC_ok S1 r1 e
      exact ⟨v, .ty t.nm, _, _, _, rfl, .ty _, k1, k2.nb t, q _ _ rfl _ ws1 H1 t1 S1 rfl⟩⟩
/-- isinstance(x, D), D an own class: the classes that are asked, each with its answer -/
def isCl (tab : List (Nat × Bool)) (s : Sto) (d : D) : Option Bool := match clD s d with
  | some c => tab.lookup c
  | none => (tyD s d).map fun _ => false
def fIsC (tab : List (Nat × Bool)) (f : M D) : M D := bnd f fun x => got fun s => (isCl tab s x).map .bl
theorem lookup_mem {α : Type} : ∀ {l : List (Nat × α)} {n : Nat} {a : α}, l.lookup n = some a → (n, a) ∈ l
  | [], _, _, h => by cases h
  | (m, b) :: l, n, a, h => by
    by_cases e : n = m
    · subst e
      simp [List.lookup] at h
      rw [h]
      exact List.mem_cons_self
    · have : (n == m) = false := by simpa using e
      simp [List.lookup, this] at h
      exact List.mem_cons_of_mem _ (lookup_mem h)
theorem de_isc {x : Str} {D0 : Nat} (tab : List (Nat × Bool)) (ha : DE X C a f) (hm : X.mg "isinstance" = none) (hmT : X.mg x = some (.ref (C.T.ad D0))) (hty : ∀ x ∈ tyN, PySem.W.kitOne C.T.K (.type x) (.ref (C.T.ad D0)) = some false)
    (htb : ∀ q ∈ tab, PySem.W.kitOne C.T.K (.ref (C.T.ad q.1)) (.ref (C.T.ad D0)) = some q.2) (hg : Gl X "isinstance" := by rfl) (hgT : Gl X x := by rfl) (hdb : (x == ("__debug__" : Str)) = false := by decide)
    (he : starEach [a, .Name x p'] X.env = (false, eval a X.env) :: starEach [.Name x p'] X.env := by rfl) (he2 : starEach [.Name x p'] X.env = (false, eval (.Name x p') X.env) :: starEach [] X.env := by rfl)
    (hpl : (backTo pos (starEach [.Name x p'] X.env)).any (·.1) = false := by rfl) (hK : X.K = C.T.K := by rfl) : DE X C (.Call (.Name "isinstance" p) [a, .Name x p'] [] pos) (fIsC tab f) :=
  let ⟨_, pa, ea⟩ := ha.ex
  ⟨_, pe_callB call_isi hg hm PyProof.Rows.boot_isinstance (pa_cons pa (pa_cons (pe_glob (v := .ref (C.T.ad D0)) hgT hmT rfl hdb) pa_nil he2) he) (by decide) (by decide) he hpl, fun ws H s σ ρ R Q S N h xx q => (ea.b) S N h xx fun x s1 h v ws1 H1 t1 S1 r1 => by
    obtain ⟨z, h2, rfl⟩ := got_some h
    obtain ⟨y, h3, rfl⟩ := Option.map_eq_some_iff.mp h2
    rw [hK]
    unfold isCl at h3
    split at h3
    · rename_i c e
      obtain ⟨k1, k2⟩ := tyC_ok S1 r1 e
      exact ⟨v, .ref (C.T.ad D0), _, _, _, rfl, .own _, k1, htb _ (lookup_mem h3), q _ _ rfl _ ws1 H1 t1 S1 rfl⟩
    · obtain ⟨c, e, rfl⟩ := Option.map_eq_some_iff.mp h3
      exact ⟨v, .ref (C.T.ad D0), _, _, _, rfl, .own _, tyX_ok S1 r1 e, hty _ (tyD_in e), q _ _ rfl _ ws1 H1 t1 S1 rfl⟩⟩

/-! ### defs -/
abbrev FM := Sto → List D → Option (Res D)
/-- the wish of a caller about an error -/
def XE' (T : Kt) (ws : Ws) (H : Hp) (E : XK) (r : Res D) : Prop := match r with
  | .ok _ _ => True
  | .ex e s' => ∀ cls dx ws' H', Stp ws H ws' H' → Sta T ws' H' s' → ExRep T ws' H' e cls dx → E cls dx H'
/-- the promise of a def: m tells its value, and the owned objects behind -/
def spF (T : Kt) (n : Nat) (m : FM) : Sp := fun vs H Q E => vs.length = n ∧ ∃ ws s ds r, Sta T ws H s ∧ Reps T ws (mask ws H) ds vs ∧ m s ds = some r ∧ XE' T ws H E r ∧
  ∀ d s', r = .ok d s' → ∀ v ws' H', Stp ws H ws' H' → Sta T ws' H' s' → Rep T ws' (mask ws' H') d v → Q v H'
def fCall (n : Nat) (m : FM) (fa : M (List D)) : M D := bnd fa fun xs => fun _ s => if xs.length = n then m s xs else none
theorem xe_of {ws : Ws} {H : Hp} {σ : L2.St} {R : Res D} (h : XOk C ws H σ R) : XE' C.T ws H (WE C.W σ) R := by
  cases R with
  | ok x s => exact True.intro
  | ex e s => exact h
theorem de_call {x : Str} {fa : M (List D)} {n k : Nat} {m : FM} {fd : FuncData} {ps : List Str} {f : Addr} (tk : Takes X C.W) (F : FnOk X.prog X.w X.K X.mg X.base (L2.CX X.prog X.w) k f fd ps (spF C.T n m)) (hr : Room k X.A) (hm : X.mg x = some (.ref f)) (hk : PySem.W.keepIn X.K (.ref f) = true) (hb : Binds X.K fd ps [])
    (ha : DA X C (e :: es) fa) (hg : Gl X x := by rfl) (hdb : (x == ("__debug__" : Str)) = false := by decide)
    (he : starEach (e :: es) X.env = (false, eval e X.env) :: starEach es X.env := by rfl) (hpl : (backTo pos (starEach es X.env)).any (·.1) = false := by rfl) : DE X C (.Call (.Name x p) (e :: es) [] pos) (fCall n m fa) :=
  let ⟨_, pa, ea⟩ := ha.ex
  ⟨_, pe_callS F hr hg hm hk hb (passAt tk) pa hdb he hpl, fun ws H s σ ρ R Q S N h xx q => (ea.b) S N h xx fun xs s1 h vs ws1 H1 t1 S1 r1 => by
    split at h
    · rename_i hn
      exact ⟨by rw [← r1.length]; exact hn, ws1, s1, xs, R, S1, r1, h, xe_of (xx.stp t1), fun d s' e v ws2 H2 t2 S2 r2 => q d s' e v ws2 H2 (t1.trans t2) S2 r2⟩
    · cases h⟩

/-! ### what is walked -/
/-- the items, and the owned list that is walked (with what it holds) -/
abbrev Src := List D × Option (Nat × List D)
def chk : Option (Nat × List D) → Sto → Bool
  | none, _ => true
  | some (l, ds), s => match lstAt s l with
    | some es => sameDs es ds
    | none => false
theorem chk_own {l : Nat} {ds : List D} {s : Sto} (h : chk (some (l, ds)) s = true) : lstAt s l = some ds := by
  unfold chk at h
  split at h
  · rename_i hh; cases hh
  · rename_i l' ds' hh
    cases hh
    split at h
    · rename_i es e
      rw [e, sameDs_ok _ _ h]
    · cases h
structure Wk (T : Kt) (J : It) (ws : Ws) (H : Hp) (z : Src) : Prop where
  step : ∀ i d ws2 H2 s2, Stq ws H ws2 H2 → Sta T ws2 H2 s2 → chk z.2 s2 = true → z.1[i]? = some d → J.go i H2 ∧ ∀ x H3, J.yld i H2 x H3 → Stp ws2 H2 ws2 H3 ∧ Sta T ws2 H3 s2 ∧ Rep T ws2 (mask ws2 H3) d x
  stop : ∀ ws2 H2 s2, Stq ws H ws2 H2 → Sta T ws2 H2 s2 → chk z.2 s2 = true → J.stop z.1.length H2
def EvI (C : Cn) (wi : TI) (f : M Src) : Prop := ∀ (ws : Ws) (H : Hp) (s : Sto) (σ : L2.St) (ρ : Rho) (r : Res Src) (R : It → Hp → Prop), Sta C.T ws H s → EnvOk C.T C.x ws H σ ρ → f ρ s = some r → XOk C ws H σ r →
  (∀ z s', r = .ok z s' → ∀ J ws' H', Stp ws H ws' H' → Sta C.T ws' H' s' → Wk C.T J ws' H' z → R J H') → wi σ H R
structure DI (X : Cx) (C : Cn) (tg e : Expr) (f : M Src) : Prop where
  ex : ∃ wi, PI X tg e wi ∧ EvI C wi f
theorem wk_list {T : Kt} {ws : Ws} {H : Hp} {a : Addr} {xs : List V} {ds : List D} (h : SqL T.K (mask ws H) a xs) (r : Reps T ws (mask ws H) ds xs) : Wk T (Itl T.K a) ws H (ds, none) where
  step := fun i d ws2 H2 s2 t S _ e => by
    have h2 : SqL T.K H2 a xs := sqL_un (sqL_mono t.fz h)
    obtain ⟨v, e1, r1⟩ := (r.stq t).get e
    refine ⟨⟨xs, v, h2, e1⟩, fun x H3 y => ?_⟩
    obtain ⟨rfl, y⟩ := y
    have := y xs h2
    rw [e1] at this
    cases this
    exact ⟨Stp.refl _ _, S, r1⟩
  stop := fun ws2 H2 s2 t S _ => ⟨xs, sqL_un (sqL_mono t.fz h), by rw [r.length]; exact Nat.le_refl _⟩
theorem wk_tup {T : Kt} {ws : Ws} {H : Hp} {a : Addr} {xs : List V} {ds : List D} (h : SqT T.K (mask ws H) a xs) (r : Reps T ws (mask ws H) ds xs) : Wk T (Itt T.K a) ws H (ds, none) where
  step := fun i d ws2 H2 s2 t S _ e => by
    have h2 : SqT T.K H2 a xs := sqT_un (sqT_mono t.fz h)
    obtain ⟨v, e1, r1⟩ := (r.stq t).get e
    refine ⟨⟨xs, v, h2, e1⟩, fun x H3 y => ?_⟩
    obtain ⟨rfl, y⟩ := y
    have := y xs h2
    rw [e1] at this
    cases this
    exact ⟨Stp.refl _ _, S, r1⟩
  stop := fun ws2 H2 s2 t S _ => ⟨xs, sqT_un (sqT_mono t.fz h), by rw [r.length]; exact Nat.le_refl _⟩
/-- range -/
def rngD (lo : Int) (n : Nat) : List D := (List.range n).map fun (i : Nat) => .int (lo + (i : Int))
theorem wk_range {T : Kt} {ws : Ws} {H : Hp} {lo : Int} {n : Nat} : Wk T (Itr lo n) ws H (rngD lo n, none) where
  step := fun i d ws2 H2 s2 t S _ e => by
    unfold rngD at e
    simp only [List.getElem?_map, Option.map_eq_some_iff] at e
    obtain ⟨j, e, rfl⟩ := e
    obtain ⟨h1, h2⟩ := List.getElem?_eq_some_iff.mp e
    simp at h1 h2
    subst h2
    refine ⟨h1, fun x H3 y => ?_⟩
    obtain ⟨rfl, rfl⟩ := y
    exact ⟨Stp.refl _ _, S, rfl⟩
  stop := fun ws2 H2 s2 t S _ => by
    show n ≤ (rngD lo n).length
    unfold rngD
    rw [List.length_map, List.length_range]
    exact Nat.le_refl _
def fRng1 (f : M D) : M Src := bnd f fun x => got fun _ => match x with
  | .int j => if smallI j = true then some (rngD 0 j.toNat, none) else none
  | _ => none
def fRng2 (f g : M D) : M Src := bnd f fun x => bnd g fun y => got fun _ => match x, y with
  | .int i, .int j => if smallI i = true ∧ smallI j = true then some (rngD i (j - i).toNat, none) else none
  | _, _ => none
theorem di_range1 {tg : Expr} (ha : DE X C a f) (hm : X.mg "range" = none) (hg : Gl X "range" := by rfl) (hs : starEach [a] X.env = [(false, eval a X.env)] := by rfl) : DI X C tg (.Call (.Name "range" p) [a] [] pos) (fRng1 f) :=
  let ⟨_, pa, ea⟩ := ha.ex
  ⟨_, pi_range1 hg hm (pa_cons pa pa_nil hs) hs, fun ws H s σ ρ r R S N h xx q => (ea.b) S N h xx fun x s1 h v ws1 H1 t1 S1 r1 => by
    obtain ⟨z, h2, rfl⟩ := got_some h
    split at h2
    · split at h2
      · rename_i j hj
        cases h2
        cases r1
        exact ⟨_, rfl, ((smallI_iff _).mp hj).1, ((smallI_iff _).mp hj).2, q _ _ rfl _ ws1 H1 t1 S1 wk_range⟩
      · cases h2
    · cases h2⟩
theorem di_range2 {tg : Expr} (ha : DE X C a f) (hb : DE X C b g) (hm : X.mg "range" = none) (hg : Gl X "range" := by rfl) (hs : starEach [a, b] X.env = [(false, eval a X.env), (false, eval b X.env)] := by rfl) (hs2 : starEach [b] X.env = [(false, eval b X.env)] := by rfl) : DI X C tg (.Call (.Name "range" p) [a, b] [] pos) (fRng2 f g) :=
  let ⟨_, pa, ea⟩ := ha.ex
  let ⟨_, pb, eb⟩ := hb.ex
  ⟨_, pi_range2 hg hm (pa_cons pa (pa_cons pb pa_nil hs2) (by rw [hs, hs2])) hs hs2, fun ws H s σ ρ r R S N h xx q => (ea.b) S N h xx fun x s1 h0 v ws1 H1 t1 S1 r1 => (eb.b) S1 (N.stp t1) h0 (xx.stp t1) fun y s2 h4 u ws2 H2 t2 S2 r2 => by
    obtain ⟨z, h2, rfl⟩ := got_some h4
    split at h2
    · split at h2
      · rename_i i j hj
        cases h2
        cases r1
        cases r2
        exact ⟨_, _, rfl, ⟨((smallI_iff _).mp hj.1).1, ((smallI_iff _).mp hj.1).2, ((smallI_iff _).mp hj.2).1, ((smallI_iff _).mp hj.2).2⟩, q _ _ rfl _ ws2 H2 (t1.trans t2) S2 wk_range⟩
      · cases h2
    · cases h2⟩
/-- a text, sign by sign -/
def signs (x : Str) : List D := x.cps.toList.map fun c => .str ⟨#[c]⟩
theorem wk_str {T : Kt} {ws : Ws} {H : Hp} {x : Str} : Wk T (Its x) ws H (signs x, none) where
  step := fun i d ws2 H2 s2 t S _ e => by
    unfold signs at e
    simp only [List.getElem?_map, Option.map_eq_some_iff] at e
    obtain ⟨c, e, rfl⟩ := e
    have e' : x.cps[i]? = some c := by simpa using e
    refine ⟨(Array.getElem?_eq_some_iff.mp e').1, fun v H3 y => ?_⟩
    obtain ⟨rfl, c', h1, rfl⟩ := y
    rw [e'] at h1
    cases h1
    exact ⟨Stp.refl _ _, S, rfl⟩
  stop := fun ws2 H2 s2 t S _ => by
    show x.cps.size ≤ (signs x).length
    unfold signs
    rw [List.length_map, Array.length_toList]
    exact Nat.le_refl _
/-- any of these: a list, an owned list, a tuple, a text -/
theorem wk_own {T : Kt} {ws : Ws} {H : Hp} {a : Addr} {l : Nat} {ds : List D} (h : ws.own[l]? = some a) : Wk T (Itl T.K a) ws H (ds, some (l, ds)) where
  step := fun i d ws2 H2 s2 t S ck e => by
    obtain ⟨xs, h2, r⟩ := S.lst (pre_get t.pre h) (chk_own ck)
    obtain ⟨v, e1, r1⟩ := r.get e
    refine ⟨⟨xs, v, .of h2, e1⟩, fun x H3 y => ?_⟩
    obtain ⟨rfl, y⟩ := y
    have := y xs (.of h2)
    rw [e1] at this
    cases this
    exact ⟨Stp.refl _ _, S, r1⟩
  stop := fun ws2 H2 s2 t S ck => by
    obtain ⟨xs, h2, r⟩ := S.lst (pre_get t.pre h) (chk_own ck)
    exact ⟨xs, .of h2, by rw [← r.length]; exact Nat.le_refl _⟩
theorem pi_or {tg : Expr} {w1 w2 : TI} (h1 : PI X tg e w1) (h2 : PI X tg e w2) : PI X tg e (fun σ H R => w1 σ H R ∨ w2 σ H R) :=
  ⟨fun pins s σ H R I h => h.elim (h1.run pins s σ H R I) (h2.run pins s σ H R I)⟩
def srcA (s : Sto) : D → Option Src
  | .lst ds => some (ds, none)
  | .lck ds => some (ds, none)
  | .tup ds => some (ds, none)
  | .str z => some (signs z, none)
  | .own l => (lstAt s l).map fun ds => (ds, some (l, ds))
  | _ => none
def fSrc (f : M D) : M Src := bnd f fun x => got fun s => srcA s x
theorem di_any {tg : Expr} (ha : DE X C e f) (hK : X.K = C.T.K := by rfl) : DI X C tg e (fSrc f) :=
  let ⟨_, pa, ea⟩ := ha.ex
  ⟨_, pi_or (pi_list pa) (pi_or (pi_tup pa) (pi_str pa)), fun ws H s σ ρ r R S N h xx q => by
    unfold fSrc bnd at h
    split at h
    · rename_i x s1 h1
      obtain ⟨z, h2, rfl⟩ := got_some h
      cases x with
      | lst ds =>
        cases h2
        refine .inl (ea ws H s σ ρ _ _ S N h1 True.intro fun d s2 e v ws1 H1 t1 S1 r1 => ?_)
        cases e
        obtain ⟨a, xs, rfl, k1, k2⟩ := r1
        exact ⟨a, rfl, ⟨xs, .of (mask_some k1).2⟩, hK ▸ q _ _ rfl _ ws1 H1 t1 S1 (wk_list (.of k1) k2)⟩
      | lck ds =>
        cases h2
        refine .inl (ea ws H s σ ρ _ _ S N h1 True.intro fun d s2 e v ws1 H1 t1 S1 r1 => ?_)
        cases e
        obtain ⟨a, xs, rfl, k1, k2⟩ := r1
        exact ⟨a, rfl, ⟨xs, hK ▸ sqL_un k1⟩, hK ▸ q _ _ rfl _ ws1 H1 t1 S1 (wk_list k1 k2)⟩
      | own l =>
        obtain ⟨ds, h3, rfl⟩ := Option.map_eq_some_iff.mp h2
        refine .inl (ea ws H s σ ρ _ _ S N h1 True.intro fun d s2 e v ws1 H1 t1 S1 r1 => ?_)
        cases e
        obtain ⟨a, k1, rfl⟩ := r1
        obtain ⟨xs, k2, k3⟩ := S1.lst k1 h3
        exact ⟨a, rfl, ⟨xs, .of k2⟩, hK ▸ q _ _ rfl _ ws1 H1 t1 S1 (wk_own k1)⟩
      | tup ds =>
        cases h2
        refine .inr (.inl (ea ws H s σ ρ _ _ S N h1 True.intro fun d s2 e v ws1 H1 t1 S1 r1 => ?_))
        cases e
        obtain ⟨a, xs, rfl, k1, k2⟩ := r1
        exact ⟨a, rfl, ⟨xs, hK ▸ sqT_un k1⟩, hK ▸ q _ _ rfl _ ws1 H1 t1 S1 (wk_tup k1 k2)⟩
      | str z =>
        cases h2
        refine .inr (.inr (ea ws H s σ ρ _ _ S N h1 True.intro fun d s2 e v ws1 H1 t1 S1 r1 => ?_))
        cases e
        cases r1
        exact ⟨_, rfl, q _ _ rfl _ ws1 H1 t1 S1 wk_str⟩
      | _ => cases h2
    · rename_i e s1 h1
      cases h
      exact .inl (ea ws H s σ ρ _ _ S N h1 xx fun d s' e => nomatch e)
    · cases h⟩

/-! ### targets -/
structure DG (X : Cx) (C : Cn) (tg : Expr) (g : D → Rho → Option Rho) (is : List Nat) : Prop where
  ex : ∃ t, PG X tg t ∧ ∀ ws H σ ρ d v ρ' Q, EnvOk C.T C.x ws H σ ρ → Rep C.T ws (mask ws H) d v → g d ρ = some ρ' → (∀ σ', EnvOk C.T C.x ws H σ' ρ' → (∀ vs, (∀ i ∈ is, i ∈ vs) → L2.wipe σ' vs = L2.wipe σ vs) → Q σ' H) → t v σ H Q
structure DGs (X : Cx) (C : Cn) (tgs : List Expr) (g : List D → Rho → Option Rho) (is : List Nat) : Prop where
  ex : ∃ t, PGs X tgs t ∧ ∀ ws H σ ρ ds vs ρ' Q, EnvOk C.T C.x ws H σ ρ → Reps C.T ws (mask ws H) ds vs → g ds ρ = some ρ' → (∀ σ', EnvOk C.T C.x ws H σ' ρ' → (∀ vs, (∀ i ∈ is, i ∈ vs) → L2.wipe σ' vs = L2.wipe σ vs) → Q σ' H) → t vs σ H Q
theorem wipe_set {σ : L2.St} {i : Nat} {x : Option V} : ∀ {vs : List Nat}, i ∉ vs → L2.wipe (σ.set i x) vs = (L2.wipe σ vs).set i x
  | [], _ => rfl
  | v :: vs, h => by
    have h1 : i ≠ v := fun e => h (by rw [e]; exact List.mem_cons_self)
    have h2 : i ∉ vs := fun e => h (List.mem_cons_of_mem _ e)
    unfold L2.wipe
    rw [wipe_set h2, List.set_comm _ _ h1]
theorem wipe_in {σ : L2.St} {i : Nat} {x : Option V} : ∀ {vs : List Nat}, i ∈ vs → L2.wipe (σ.set i x) vs = L2.wipe σ vs
  | v :: vs, h => by
    unfold L2.wipe
    by_cases h2 : i ∈ vs
    · rw [wipe_in h2]
    · have e : i = v := by
        rcases List.mem_cons.mp h with e | e
        · exact e
        · exact absurd e h2
      subst e
      rw [wipe_set h2, List.set_set]
def gNm (i : Nat) (d : D) (ρ : Rho) : Option Rho := some (ρ.set i (some d))
theorem dg_name (i : Nat) {x : Str} (hN : X.N.Nodup) (hi : X.N[i]? = some x := by rfl) (hx : Loc X.env.scope x := by first | exact Or.inl rfl | exact Or.inr rfl) (hf : X.fn x = true ∨ X.env.scope.names.lookup x = some .local := by first | exact .inl rfl | exact .inr rfl | assumption) (hns : nsl C.x i := by first | exact True.intro | (show (_ : Nat) ≠ _; decide)) : DG X C (.Name x pos) (gNm i) [i] :=
  ⟨_, pg_name hN hi hx hf, fun ws H σ ρ d v ρ' Q N r h q => by
    cases h
    exact q _ (N.set r hns) fun vs hv => wipe_in (hv i (List.mem_singleton.mpr rfl))⟩
def gNl (ds : List D) (ρ : Rho) : Option Rho := match ds with
  | [] => some ρ
  | _ => none
def gCn (g : D → Rho → Option Rho) (gs : List D → Rho → Option Rho) (ds : List D) (ρ : Rho) : Option Rho := match ds with
  | d :: r => match g d ρ with
    | some ρ1 => gs r ρ1
    | none => none
  | [] => none
theorem dgs_nil : DGs X C [] gNl [] := ⟨_, pgs_nil, fun ws H σ ρ ds vs ρ' Q N r h q => by
  unfold gNl at h
  split at h
  · cases h
    cases r
    exact ⟨rfl, q σ N fun _ _ => rfl⟩
  · cases h⟩
theorem dgs_cons {e : Expr} {es : List Expr} {g : D → Rho → Option Rho} {gs : List D → Rho → Option Rho} {is js : List Nat} (h1 : DG X C e g is) (h2 : DGs X C es gs js) (hs : (assignEach (e :: es) X.env).map (·.2) = assign e X.env :: (assignEach es X.env).map (·.2) := by rfl) : DGs X C (e :: es) (gCn g gs) (is ++ js) :=
  let ⟨_, pa, ea⟩ := h1.ex
  let ⟨_, pb, eb⟩ := h2.ex
  ⟨_, pgs_cons pa pb hs, fun ws H σ ρ ds vs ρ' Q N r h q => by
    unfold gCn at h
    split at h
    · rename_i d ds'
      obtain ⟨v, w, rfl, r1, r2⟩ := r
      split at h
      · rename_i ρ1 h3
        refine ⟨v, w, rfl, ea ws H σ ρ d v ρ1 _ N r1 h3 fun σ1 N1 w1 => eb ws H σ1 ρ1 ds' w ρ' _ N1 r2 h fun σ2 N2 w2 => q σ2 N2 fun vs hv => ?_⟩
        rw [w2 vs fun i hi => hv i (List.mem_append_right _ hi), w1 vs fun i hi => hv i (List.mem_append_left _ hi)]
      · cases h
    · cases h⟩
def gTp (n : Nat) (gs : List D → Rho → Option Rho) (d : D) (ρ : Rho) : Option Rho := match d with
  | .tup ds => if ds.length = n then gs ds ρ else none
  | _ => none
theorem dg_tup {es : List Expr} {k n : Nat} {gs : List D → Rho → Option Rho} {is : List Nat} (hc : X.calm = true) (h : DGs X C es gs is) (hn : (assignEach es X.env).length = n := by rfl) (hst : (assignEach es X.env).findIdx? (·.1) = none := by rfl) (hK : X.K = C.T.K := by rfl) : DG X C (.Tuple es k pos) (gTp n gs) is :=
  let ⟨_, pa, ea⟩ := h.ex
  ⟨_, pg_tup hc pa hn hst, fun ws H σ ρ d v ρ' Q N r h q => by
    unfold gTp at h
    split at h
    · split at h
      · rename_i ds hl
        obtain ⟨a, xs, rfl, k1, k2⟩ := r
        exact ⟨a, xs, rfl, hK ▸ sqT_un k1, by rw [← k2.length]; exact hl, ea ws H σ ρ ds xs ρ' Q N k2 h q⟩
      · cases h
    · cases h⟩
end
end
end VM
set_option Elab.async false
set_option maxRecDepth 100000
set_option maxHeartbeats 4000000
set_option linter.all false
set_option autoImplicit false
namespace VM
open PySem L2
noncomputable section

/-! ### comprehensions -/
structure DTs (X : Cx) (C : Cn) (ifs : List Expr) (f : M Bool) : Prop where
  ex : ∃ tt, PTs X ifs tt ∧ EvT C tt f
theorem dts_nil {X : Cx} {C : Cn} : DTs X C [] (ret true) := ⟨_, pts_nil, fun ws H s σ ρ R Q S N h xx q => by
  cases ret_some h
  exact q _ _ rfl ws H (Stp.refl _ _) S⟩
theorem dts_one {X : Cx} {C : Cn} {c : Expr} {t : M Bool} (h : DT X C c t) : DTs X C [c] t := let ⟨_, pa, ea⟩ := h.ex; ⟨_, pts_one pa, ea⟩
/-- nothing is let out -/
abbrev W0 : WX := fun _ _ _ _ => False
abbrev Cn.in0 (C : Cn) : Cn := ⟨C.T, W0, C.x⟩
def lcL (g : D → Rho → Option Rho) (ft : M Bool) (fe : M D) (ck : Option (Nat × List D)) (ρ : Rho) : List D → Sto → Option (List D × Sto)
  | [], s => if chk ck s = true then some ([], s) else none
  | d :: ds, s => if chk ck s = true then match g d ρ with
    | some ρ1 => match ft ρ1 s with
      | some (.ok true s1) => match fe ρ1 s1 with
        | some (.ok y s2) => match lcL g ft fe ck ρ ds s2 with
          | some (ys, s3) => some (y :: ys, s3)
          | none => none
        | _ => none
      | some (.ok false s1) => lcL g ft fe ck ρ ds s1
      | _ => none
    | none => none
    else none
def fLc (fi : M Src) (g : D → Rho → Option Rho) (ft : M Bool) (fe : M D) (vs : List Nat) : M D := bnd fi fun z => fun ρ s => if z.1.length ≤ LIM then match lcL g ft fe z.2 (wipeD ρ vs) z.1 s with
  | some (ys, s') => some (.ok (.lst ys) s')
  | none => none
  else none
theorem mask_hide {ws : Ws} {H : Hp} {p : Addr} {o : HO} (h : H p = none) : mask ⟨ws.own, p :: ws.hid⟩ (upd H p o) = mask ws H := by
  funext a
  unfold mask
  by_cases ha : a = p
  · subst ha
    rw [if_pos (.inr List.mem_cons_self), h]
    split <;> rfl
  · rw [upd_ne ha]
    by_cases h1 : a ∈ ws.own ∨ a ∈ ws.hid
    · rw [if_pos h1, if_pos (h1.imp id (List.mem_cons_of_mem _))]
    · rw [if_neg h1, if_neg (fun z => h1 (z.imp id fun z => (List.mem_cons.mp z).resolve_left ha))]
theorem lcL_len {g : D → Rho → Option Rho} {ft : M Bool} {fe : M D} {ck : Option (Nat × List D)} {ρ : Rho} : ∀ {ds : List D} {s : Sto} {ys : List D} {s' : Sto}, lcL g ft fe ck ρ ds s = some (ys, s') → ys.length ≤ ds.length
  | [], s, ys, s', h => by
    unfold lcL at h
    split at h
    · cases h; exact Nat.le_refl _
    · cases h
  | d :: ds, s, ys, s', h => by
    unfold lcL at h
    split at h
    · split at h
      · split at h
        · split at h
          · split at h
            · rename_i zs s3 h1
              cases h
              have := lcL_len h1
              exact Nat.succ_le_succ this
            · cases h
          · cases h
        · exact Nat.le_succ_of_le (lcL_len h)
        · cases h
      · cases h
    · cases h
/-- what is already made, and what the rest gives -/
theorem ev_lc {C : Cn} {wi : TI} {tg : TG} {tt : TT} {te : TE} {fi : M Src} {g : D → Rho → Option Rho} {ft : M Bool} {fe : M D} {is vs : List Nat} (hi : EvI C wi fi)
    (hg : ∀ ws H σ ρ d v ρ' Q, EnvOk C.T C.x ws H σ ρ → Rep C.T ws (mask ws H) d v → g d ρ = some ρ' → (∀ σ', EnvOk C.T C.x ws H σ' ρ' → (∀ vs, (∀ i ∈ is, i ∈ vs) → L2.wipe σ' vs = L2.wipe σ vs) → Q σ' H) → tg v σ H Q)
    (hv : ∀ i ∈ is, i ∈ vs) (hvx : ∀ i ∈ vs, nsl C.x i) (ht : EvT C.in0 tt ft) (he : EvS C.in0 te fe) : EvS C (tLc wi tg tt te vs) (fLc fi g ft fe vs) := by
  intro ws H s σ ρ R Q S N h xx q
  unfold fLc bnd at h
  split at h
  rotate_left
  · rename_i e s1 h1
    cases h
    exact hi ws H s σ ρ _ _ S N h1 xx fun z s' e => nomatch e
  · cases h
  rename_i z s1 h1
  dsimp only at h
  split at h
  · rename_i hlim
    split at h
    · rename_i ys sE hl
      cases h
      refine hi ws H s σ ρ _ _ S N h1 True.intro fun z' s1' ez J ws1 H1 t1 S1 wk Dd hD => ?_
      cases ez
      have hwipe : ∀ σ0, L2.wipe (L2.wipe σ0 vs) vs = L2.wipe σ0 vs := by
        have gen : ∀ (us : List Nat) (σ0 : L2.St), (∀ u ∈ us, u ∈ vs) → L2.wipe (L2.wipe σ0 us) vs = L2.wipe σ0 vs := by
          intro us
          induction us with
          | nil => intro σ0 _; rfl
          | cons u us ih =>
            intro σ0 hu
            show L2.wipe ((L2.wipe σ0 us).set u none) vs = _
            rw [wipe_in (hu u List.mem_cons_self)]
            exact ih σ0 fun w hw => hu w (List.mem_cons_of_mem _ hw)
        intro σ0
        exact gen vs σ0 fun _ z => z
      -- the state within
      let In : Nat → List D → Sto → List V → Ws → Hp → Prop := fun i acc s2 xs ws2 H2 =>
        Dd ∈ ws2.hid ∧ Stp ⟨ws1.own, ws1.hid⟩ H1 ⟨ws2.own, ws2.hid⟩ H2 ∧ Sta C.T ws2 H2 s2 ∧ H2 Dd = some (.lst xs) ∧ Reps C.T ws2 (mask ws2 H2) acc xs ∧ i ≤ z.1.length ∧ acc.length ≤ i ∧
          ∃ rest, ys = acc ++ rest ∧ lcL g ft fe z.2 (wipeD ρ vs) (z.1.drop i) s2 = some (rest, sE)
      refine ⟨fun i m H2 => m = z.1.length - i ∧ ∃ acc s2 xs ws2, In i acc s2 xs ws2 H2, ⟨_, rfl, [], s1, [], ⟨ws1.own, Dd :: ws1.hid⟩, ?_⟩, ?_⟩
      · have hm : mask ⟨ws1.own, Dd :: ws1.hid⟩ (upd H1 Dd (.lst [])) = mask ws1 H1 := mask_hide hD
        have hfr := S1.fresh hD
        refine ⟨List.mem_cons_self, ⟨List.prefix_refl _, fun a z => List.mem_cons_of_mem _ z, fun a o e => by rw [hm]; exact e, fun a z => upd_ne fun e => hfr.2 (e ▸ z)⟩, ⟨S1.nd, S1.len, ?_, ?_, ?_⟩, upd_same, rfl, Nat.zero_le _, Nat.le_refl _, ys, rfl, by rw [List.drop_zero]; exact hl⟩
        · intro a z
          rcases List.mem_cons.mp z with e | z
          · rw [e]; exact hfr.1
          · exact S1.dis a z
        · intro a z
          rcases List.mem_cons.mp z with e | z
          · rw [e]; exact ⟨_, upd_same⟩
          · obtain ⟨o, e⟩ := S1.hid a z
            exact ⟨o, by rw [upd_ne (fun (q : a = Dd) => hfr.2 (by rw [← q]; exact z))]; exact e⟩
        · intro l a ds e1 e2
          obtain ⟨xs, k1, k2⟩ := S1.own l a ds e1 e2
          refine ⟨xs, by rw [upd_ne (ne_of_none k1 hD)]; exact k1, ?_⟩
          rw [hm]
          exact SoRel.mono (ws := ws1) (ws' := ⟨ws1.own, Dd :: ws1.hid⟩) (List.prefix_refl _) (fun _ _ z => z) k2
      · rintro i m H2 ⟨rfl, acc, s2, xs, ws2, hd, t2, S2, hDd, rx, hi', hacc, rest, hys, hl2⟩
        by_cases hlt : i < z.1.length
        · rw [List.drop_eq_getElem_cons hlt] at hl2
          unfold lcL at hl2
          split at hl2
          · rename_i hck
            split at hl2
            · rename_i ρ1 hg1
              obtain ⟨go, yl⟩ := wk.step i z.1[i] ws2 H2 s2 t2.q S2 hck (List.getElem?_eq_getElem hlt)
              refine .inr ⟨go, fun H5 => ∃ acc s2 xs ws2, In (i + 1) acc s2 xs ws2 H5, fun H5 h5 => ⟨_, by omega, rfl, h5⟩, fun x H3 y => ?_⟩
              obtain ⟨t3, S3, r3⟩ := yl x H3 y
              have NE : EnvOk C.T C.x ws2 H3 (L2.wipe σ vs) (wipeD ρ vs) := by
                have N1 := (N.wipe vs hvx).stp t1
                refine ⟨N1.len, fun j e hj => ?_, fun q e => ?_⟩
                · obtain ⟨v, e1, e2⟩ := N1.at_ j e hj
                  exact ⟨v, e1, (Rep.stp t2 e2).stp t3⟩
                · obtain ⟨e1, cls, e2⟩ := N1.ex q e
                  exact ⟨e1, cls, (ExRep.stp t2 e2).stp t3⟩
              refine hg ws2 H3 _ _ _ x ρ1 _ NE r3 hg1 fun σ2 N2 w2 => ⟨by rw [w2 vs hv, hwipe], ?_⟩
              split at hl2
              · rename_i s3 hft
                refine ht ws2 H3 s2 σ2 ρ1 _ _ S3 N2 hft True.intro fun d0 s0 e0 ws3 H4 t4 S4 => ?_
                cases e0
                rw [if_pos rfl]
                split at hl2
                · rename_i y' s4 hfe
                  refine he ws3 H4 s3 σ2 ρ1 _ _ S4 (N2.stp t4) hfe True.intro fun d1 s1 e1 v ws4 H6 t5 S5 r5 => ?_
                  cases e1
                  split at hl2
                  · rename_i zs s5 hl3
                    cases hl2
                    have tt := (t3.trans t4).trans t5
                    have hd4 : Dd ∈ ws4.hid := tt.hid _ hd
                    have hD4 : H6 Dd = some (.lst xs) := (tt.hk Dd hd).trans hDd
                    have hm : mask ws4 (upd H6 Dd (.lst (xs ++ [v]))) = mask ws4 H6 := by
                      funext a
                      unfold mask
                      by_cases ha : a = Dd
                      · subst ha
                        rw [if_pos (.inr hd4), if_pos (.inr hd4)]
                      · rw [upd_ne ha]
                    have hz := rx.length
                    refine ⟨xs, hD4, lim_lt (by omega), acc ++ [y'], s4, xs ++ [v], ws4, hd4, ⟨t2.pre.trans tt.pre, fun a q => tt.hid a (t2.hid a q), fun a o q => by rw [hm]; exact tt.fz a o (t2.fz a o q), fun a q => ?_⟩, ⟨S5.nd, S5.len, S5.dis, ?_, ?_⟩, upd_same, ?_, hlt, ?_, zs, ?_, hl3⟩
                    · have hne : a ≠ Dd := fun e => by
                        subst e
                        obtain ⟨o, e⟩ := S1.hid _ q
                        rw [hD] at e
                        cases e
                      rw [upd_ne hne, tt.hk a (t2.hid a q)]
                      exact t2.hk a q
                    · intro a q
                      by_cases ha : a = Dd
                      · subst ha; exact ⟨_, upd_same⟩
                      · rw [upd_ne ha]; exact S5.hid a q
                    · intro l a ds e1 e2
                      obtain ⟨us, k1, k2⟩ := S5.own l a ds e1 e2
                      have hne : a ≠ Dd := fun e => S5.dis _ hd4 (by rw [← e]; exact List.mem_of_getElem? e1)
                      exact ⟨us, by rw [upd_ne hne]; exact k1, by rw [hm]; exact k2⟩
                    · rw [hm]
                      exact (Reps.mono tt.pre tt.fz acc xs rx).append ⟨v, [], rfl, r5, rfl⟩
                    · rw [List.length_append, List.length_singleton]; omega
                    · rw [hys, List.append_assoc]; rfl
                  · cases hl2
                · cases hl2
              · rename_i s3 hft
                refine ht ws2 H3 s2 σ2 ρ1 _ _ S3 N2 hft True.intro fun d0 s0 e0 ws3 H4 t4 S4 => ?_
                cases e0
                rw [if_neg Bool.false_ne_true]
                have tt := t3.trans t4
                exact ⟨acc, s3, xs, ws3, tt.hid _ hd, ⟨t2.pre.trans tt.pre, fun a q => tt.hid a (t2.hid a q), fun a o q => tt.fz a o (t2.fz a o q), fun a q => (tt.hk a (t2.hid a q)).trans (t2.hk a q)⟩, S4, (tt.hk Dd hd).trans hDd, Reps.mono tt.pre tt.fz acc xs rx, hlt, by omega, rest, hys, hl2⟩
              · cases hl2
            · cases hl2
          · cases hl2
        · have e : i = z.1.length := by omega
          subst e
          rw [List.drop_length] at hl2
          unfold lcL at hl2
          split at hl2
          · rename_i hck
            cases hl2
            refine .inl ⟨wk.stop ws2 H2 _ t2.q S2 hck, ?_⟩
            -- the new list is frozen from now on
            have hdo : Dd ∉ ws2.own := S2.dis _ hd
            let ws3 : Ws := ⟨ws2.own, ws2.hid.filter fun a => decide (a ≠ Dd)⟩
            have hin : ∀ a, a ∈ ws3.hid → a ∈ ws2.hid ∧ a ≠ Dd := fun a q => by
              obtain ⟨q1, q2⟩ := List.mem_filter.mp q
              exact ⟨q1, of_decide_eq_true q2⟩
            have hmono : ∀ a o, mask ws2 H2 a = some o → mask ws3 H2 a = some o := fun a o q => by
              obtain ⟨n, q⟩ := mask_some q
              rw [mask_of (ws := ws3) ⟨n.1, fun w => n.2 (hin a w).1⟩]
              exact q
            have hDn : ∀ a ∈ ws1.hid, a ≠ Dd := fun a q e => by
              subst e
              obtain ⟨o, e⟩ := S1.hid _ q
              rw [hD] at e
              cases e
            refine q _ _ rfl (.ref Dd) ws3 H2 (t1.trans ⟨t2.pre, fun a w => List.mem_filter.mpr ⟨t2.hid a w, decide_eq_true (hDn a w)⟩, fun a o w => hmono a o (t2.fz a o w), t2.hk⟩) ⟨S2.nd, S2.len, fun a w => S2.dis a (hin a w).1, fun a w => S2.hid a (hin a w).1, fun l a ds e1 e2 => ?_⟩ ⟨Dd, xs, rfl, ?_, ?_⟩
            · obtain ⟨us, k1, k2⟩ := S2.own l a ds e1 e2
              exact ⟨us, k1, SoRel.mono (ws := ws2) (ws' := ws3) (List.prefix_refl _) hmono k2⟩
            · rw [mask_of (ws := ws3) ⟨hdo, fun w => (hin _ w).2 rfl⟩]
              exact hDd
            · rw [hys, List.append_nil]
              exact Reps.mono (ws := ws2) (ws' := ws3) (List.prefix_refl _) hmono acc xs rx
          · cases hl2
    · cases h
  · cases h
/-! ### one reading for all of a block's contexts -/
theorem unify_E {ι : Type} {Y : ι → Cx} {C : Cn} {e : Expr} {f : M D} (h : ∀ p, DE (Y p) C e f) : ∃ te, (∀ p, PE (Y p) e te) ∧ EvS C te f := by
  have hT := fun p => Classical.choose_spec (h p).ex
  exact ⟨fun σ H Q => ∀ p, Classical.choose (h p).ex σ H Q, fun p => ⟨fun pins s σ H Q I hw => (hT p).1.run pins s σ H Q I (hw p)⟩, fun ws H s σ ρ R Q S N h1 xx q p => (hT p).2 ws H s σ ρ R Q S N h1 xx q⟩
theorem unify_T {ι : Type} {Y : ι → Cx} {C : Cn} {es : List Expr} {f : M Bool} (h : ∀ p, DTs (Y p) C es f) : ∃ te, (∀ p, PTs (Y p) es te) ∧ EvT C te f := by
  have hT := fun p => Classical.choose_spec (h p).ex
  exact ⟨fun σ H Q => ∀ p, Classical.choose (h p).ex σ H Q, fun p => ⟨fun pins s σ H Q I hw => (hT p).1.run pins s σ H Q I (hw p)⟩, fun ws H s σ ρ R Q S N h1 xx q p => (hT p).2 ws H s σ ρ R Q S N h1 xx q⟩
def GOk (C : Cn) (t : TG) (g : D → Rho → Option Rho) (is : List Nat) : Prop := ∀ ws H σ ρ d v ρ' Q, EnvOk C.T C.x ws H σ ρ → Rep C.T ws (mask ws H) d v → g d ρ = some ρ' → (∀ σ', EnvOk C.T C.x ws H σ' ρ' → (∀ vs, (∀ i ∈ is, i ∈ vs) → L2.wipe σ' vs = L2.wipe σ vs) → Q σ' H) → t v σ H Q
theorem unify_G {ι : Type} {Y : ι → Cx} {C : Cn} {e : Expr} {g : D → Rho → Option Rho} {is : List Nat} (h : ∀ p, DG (Y p) C e g is) : ∃ t, (∀ p, PG (Y p) e t) ∧ GOk C t g is := by
  have h' : ∀ p, ∃ t, PG (Y p) e t ∧ GOk C t g is := fun p => (h p).ex
  have hT := fun p => Classical.choose_spec (h' p)
  exact ⟨fun v σ H Q => ∀ p, Classical.choose (h' p) v σ H Q, fun p => ⟨fun pins s σ H v u Q I r hw => (hT p).1.run pins s σ H v u Q I r (hw p)⟩, fun ws H σ ρ d v ρ' Q N r h1 q p => (hT p).2 ws H σ ρ d v ρ' Q N r h1 q⟩
structure Blk where
  s : Shared
  H : Hp
  C : Addr
  cl : List (Str × Addr)
  fp : List Addr
abbrev Blk.cx (X : Cx) (scope : Scope) (b : Blk) : Cx := X.blk b.s b.H scope (compEnvC scope b.cl b.C X.env) b.fp
section
variable {X : Cx} {C : Cn} {elt tg iter : Expr} {ifs : List Expr} {scope : Scope} {own : List (Str × Nat)} {pos spos py : Pos} {fi : M Src} {g : D → Rho → Option Rho} {ft : M Bool} {fe : M D} {is : List Nat}
theorem nsl_none {l : List Nat} : ∀ i ∈ l, nsl none i := fun _ _ => True.intro
theorem de_lc (hc : X.calm = true) (hN : X.N.Nodup) (hi : DI X C tg iter fi) (ok : BlkOk X.N X.env.scope scope own) (hv : ∀ i ∈ is, i ∈ own.map (·.2))
    (hg : ∀ b : Blk, DG (b.cx X scope) C.in0 tg g is) (ht : ∀ b : Blk, DTs (b.cx X scope) C.in0 ifs ft) (he : ∀ b : Blk, DE (b.cx X scope) C.in0 elt fe)
    (hvx : ∀ i ∈ own.map (·.2), nsl C.x i := by exact nsl_none)
    (hs : ∀ x, foldedSetIterable iter X.env x = pure x := by intro _; rfl) : DE X C (.ListComp elt [⟨tg, iter, ifs, 0⟩] scope pos) (fLc fi g ft fe (own.map (·.2))) :=
  let ⟨_, pi, ei⟩ := hi.ex
  let ⟨_, pg, eg⟩ := unify_G (C := C.in0) (Y := fun b : Blk => b.cx X scope) hg
  let ⟨_, pt, et⟩ := unify_T (C := C.in0) (Y := fun b : Blk => b.cx X scope) ht
  let ⟨_, pe, ee⟩ := unify_E (C := C.in0) (Y := fun b : Blk => b.cx X scope) he
  ⟨_, pe_lc hc hN pi ok (fun s H C cl fp => pg ⟨s, H, C, cl, fp⟩) (fun s H C cl fp => pt ⟨s, H, C, cl, fp⟩) (fun s H C cl fp => pe ⟨s, H, C, cl, fp⟩) hs, ev_lc ei eg hv hvx et ee⟩

end
end
end VM
set_option Elab.async false
set_option maxRecDepth 100000
set_option maxHeartbeats 4000000
set_option linter.all false
set_option autoImplicit false
namespace VM
open PySem L2
noncomputable section

/-! ### statements -/
inductive Out where
  | nx (ρ : Rho) (s : Sto) | rt (d : D) (s : Sto) | bk (ρ : Rho) (s : Sto) | ct (ρ : Rho) (s : Sto) | ex (e : Exn) (ρ : Rho) (s : Sto)
abbrev MS := Rho → Sto → Option Out
def EndsOk (C : Cn) (ws : Ws) (H : Hp) (E : Ends) : Out → Prop
  | .nx ρ s => ∀ σ ws' H', Stp ws H ws' H' → Sta C.T ws' H' s → EnvOk C.T C.x ws' H' σ ρ → E.nx σ H'
  | .rt d s => ∀ v ws' H', Stp ws H ws' H' → Sta C.T ws' H' s → Rep C.T ws' (mask ws' H') d v → E.rt v H'
  | .bk ρ s => ∀ σ ws' H', Stp ws H ws' H' → Sta C.T ws' H' s → EnvOk C.T C.x ws' H' σ ρ → E.bk σ H'
  | .ct ρ s => ∀ σ ws' H', Stp ws H ws' H' → Sta C.T ws' H' s → EnvOk C.T C.x ws' H' σ ρ → E.ct σ H'
  | .ex e ρ s => ∀ σ cls dx ws' H', Stp ws H ws' H' → Sta C.T ws' H' s → EnvOk C.T C.x ws' H' σ ρ → ExRep C.T ws' H' e cls dx → C.W cls dx σ H'
theorem EndsOk.stp {C : Cn} {ws ws1 : Ws} {H H1 : Hp} {E : Ends} {o : Out} (t : Stp ws H ws1 H1) (h : EndsOk C ws H E o) : EndsOk C ws1 H1 E o := by
  cases o with
  | nx ρ s => exact fun σ ws' H' t' => h σ ws' H' (t.trans t')
  | rt d s => exact fun v ws' H' t' => h v ws' H' (t.trans t')
  | bk ρ s => exact fun σ ws' H' t' => h σ ws' H' (t.trans t')
  | ct ρ s => exact fun σ ws' H' t' => h σ ws' H' (t.trans t')
  | ex e ρ s => exact fun σ cls dx ws' H' t' => h σ cls dx ws' H' (t.trans t')
def EvSt (C : Cn) (t : TS) (f : MS) : Prop := ∀ (ws : Ws) (H : Hp) (s : Sto) (σ : L2.St) (ρ : Rho) (o : Out) (E : Ends), Sta C.T ws H s → EnvOk C.T C.x ws H σ ρ → f ρ s = some o → EndsOk C ws H E o → t E σ H
structure DS (X : Cx) (C : Cn) (st : Stmt) (f : MS) : Prop where
  ex : ∃ t, PS X st t ∧ EvSt C t f
structure DSs (X : Cx) (C : Cn) (st : List Stmt) (f : MS) : Prop where
  ex : ∃ t, PSs X st t ∧ EvSt C t f
def fNx : MS := fun ρ s => some (.nx ρ s)
def fSeq (f g : MS) : MS := fun ρ s => match f ρ s with
  | some (.nx ρ1 s1) => g ρ1 s1
  | r => r
/-- behind a value -/
def bndS {α : Type} (f : M α) (k : α → MS) : MS := fun ρ s => match f ρ s with
  | some (.ok x s1) => k x ρ s1
  | some (.ex e s1) => some (.ex e ρ s1)
  | none => none
section
variable {C : Cn} {ws : Ws} {H : Hp} {s : Sto} {σ : L2.St} {ρ : Rho} {o : Out} {E : Ends}
theorem xok_of {α : Type} (S : EnvOk C.T C.x ws H σ ρ) {e : Exn} {s1 : Sto} (q : EndsOk C ws H E (.ex e ρ s1)) : XOk (α := α) C ws H σ (.ex e s1) := fun cls dx ws' H' t S' r => q σ cls dx ws' H' t S' (S.stp t) r
theorem EvS.st {te : TE} {f : M D} {k : D → MS} {Q : VK} (ea : EvS C te f) (S : Sta C.T ws H s) (N : EnvOk C.T C.x ws H σ ρ) (h : bndS f k ρ s = some o) (x : EndsOk C ws H E o)
    (q : ∀ d s1, k d ρ s1 = some o → ∀ v ws1 H1, Stp ws H ws1 H1 → Sta C.T ws1 H1 s1 → Rep C.T ws1 (mask ws1 H1) d v → Q v H1) : te σ H Q := by
  unfold bndS at h
  split at h
  · rename_i d s1 e
    exact ea ws H s σ ρ _ Q S N e True.intro fun d' s' hd => by cases hd; exact q d s1 h
  · rename_i e s1 he
    cases h
    exact ea ws H s σ ρ _ Q S N he (xok_of N x) fun d' s' hd => nomatch hd
  · cases h
theorem EvT.st {tt : TT} {f : M Bool} {k : Bool → MS} {Q : Bool → Hp → Prop} (ea : EvT C tt f) (S : Sta C.T ws H s) (N : EnvOk C.T C.x ws H σ ρ) (h : bndS f k ρ s = some o) (x : EndsOk C ws H E o)
    (q : ∀ d s1, k d ρ s1 = some o → ∀ ws1 H1, Stp ws H ws1 H1 → Sta C.T ws1 H1 s1 → Q d H1) : tt σ H Q := by
  unfold bndS at h
  split at h
  · rename_i d s1 e
    exact ea ws H s σ ρ _ Q S N e True.intro fun d' s' hd => by cases hd; exact q d s1 h
  · rename_i e s1 he
    cases h
    exact ea ws H s σ ρ _ Q S N he (xok_of N x) fun d' s' hd => nomatch hd
  · cases h
theorem EvA.st {ta : TA} {f : M (List D)} {k : List D → MS} {Q : List V → Hp → Prop} (ea : EvA C ta f) (S : Sta C.T ws H s) (N : EnvOk C.T C.x ws H σ ρ) (h : bndS f k ρ s = some o) (x : EndsOk C ws H E o)
    (q : ∀ d s1, k d ρ s1 = some o → ∀ v ws1 H1, Stp ws H ws1 H1 → Sta C.T ws1 H1 s1 → Reps C.T ws1 (mask ws1 H1) d v → Q v H1) : ta σ H Q := by
  unfold bndS at h
  split at h
  · rename_i d s1 e
    exact ea ws H s σ ρ _ Q S N e True.intro fun d' s' hd => by cases hd; exact q d s1 h
  · rename_i e s1 he
    cases h
    exact ea ws H s σ ρ _ Q S N he (xok_of N x) fun d' s' hd => nomatch hd
  · cases h
theorem EvI.st {wi : TI} {f : M Src} {k : Src → MS} {R : It → Hp → Prop} (ea : EvI C wi f) (S : Sta C.T ws H s) (N : EnvOk C.T C.x ws H σ ρ) (h : bndS f k ρ s = some o) (x : EndsOk C ws H E o)
    (q : ∀ d s1, k d ρ s1 = some o → ∀ J ws1 H1, Stp ws H ws1 H1 → Sta C.T ws1 H1 s1 → Wk C.T J ws1 H1 d → R J H1) : wi σ H R := by
  unfold bndS at h
  split at h
  · rename_i d s1 e
    exact ea ws H s σ ρ _ R S N e True.intro fun d' s' hd => by cases hd; exact q d s1 h
  · rename_i e s1 he
    cases h
    exact ea ws H s σ ρ _ R S N he (xok_of N x) fun d' s' hd => nomatch hd
  · cases h
end
section
variable {X : Cx} {C : Cn} {st : Stmt} {sts a b body : List Stmt} {f f1 f2 : MS} {e c : Expr} {fv : M D} {t : M Bool} {pos spos py : Pos} {tg iter elt : Expr} {is : List Nat} {g : D → Rho → Option Rho} {ifs : List Expr} {scope : Scope} {own : List (Str × Nat)} {fi : M Src} {ft : M Bool} {fe : M D}
theorem dss_nil : DSs X C [] fNx := ⟨_, pss_nil, fun ws H s σ ρ o E S N h q => by
  cases h
  exact q σ ws H (Stp.refl _ _) S N⟩
theorem dss_cons (h1 : DS X C st f1) (h2 : DSs X C sts f2) : DSs X C (st :: sts) (fSeq f1 f2) :=
  let ⟨_, pa, ea⟩ := h1.ex
  let ⟨_, pb, eb⟩ := h2.ex
  ⟨_, pss_cons pa pb, fun ws H s σ ρ o E S N h q => by
    unfold fSeq at h
    split at h
    · rename_i ρ1 s1 h3
      refine ea ws H s σ ρ (.nx ρ1 s1) _ S N h3 fun σ1 ws1 H1 t1 S1 N1 => ?_
      exact eb ws1 H1 s1 σ1 ρ1 o E S1 N1 h (q.stp t1)
    · rename_i r hr
      cases o with
      | nx ρ1 s1 => exact absurd h (hr _ _)
      | rt d s1 => exact ea ws H s σ ρ _ _ S N h q
      | bk ρ1 s1 => exact ea ws H s σ ρ _ _ S N h q
      | ct ρ1 s1 => exact ea ws H s σ ρ _ _ S N h q
      | ex e ρ1 s1 => exact ea ws H s σ ρ _ _ S N h q⟩
theorem dss_one (h1 : DS X C st f1) : DSs X C [st] f1 := let ⟨_, pa, ea⟩ := h1.ex; ⟨_, pss_one pa, ea⟩
theorem ds_pass : DS X C (.Pass pos) fNx := ⟨_, ps_pass, fun ws H s σ ρ o E S N h q => by
  cases h
  exact q σ ws H (Stp.refl _ _) S N⟩
def fBk : MS := fun ρ s => some (.bk ρ s)
def fCt : MS := fun ρ s => some (.ct ρ s)
theorem ds_break : DS X C (.Break pos) fBk := ⟨_, ps_break, fun ws H s σ ρ o E S N h q => by
  cases h
  exact q σ ws H (Stp.refl _ _) S N⟩
theorem ds_continue : DS X C (.Continue pos) fCt := ⟨_, ps_continue, fun ws H s σ ρ o E S N h q => by
  cases h
  exact q σ ws H (Stp.refl _ _) S N⟩
def fRet (f : M D) : MS := bndS f fun x _ s => some (.rt x s)
theorem ds_ret (h : DE X C e fv) : DS X C (.Return (some e) pos) (fRet fv) :=
  let ⟨_, pa, ea⟩ := h.ex
  ⟨_, ps_ret pa, fun ws H s σ ρ o E S N h q => (ea.st) S N h q fun x s1 h v ws1 H1 t1 S1 r1 => by
    cases h
    exact q v ws1 H1 t1 S1 r1⟩
def fRetN : MS := fun _ s => some (.rt .non s)
theorem ds_retN : DS X C (.Return none pos) fRetN := ⟨_, ps_retN, fun ws H s σ ρ o E S N h q => by
  cases h
  exact q _ ws H (Stp.refl _ _) S rfl⟩
def fIfS (t : M Bool) (f1 f2 : MS) : MS := bndS t fun b => if b = true then f1 else f2
theorem ds_if (hc : DT X C c t) (ha : DSs X C a f1) (hb : DSs X C b f2) : DS X C (.If c a b pos) (fIfS t f1 f2) :=
  let ⟨_, pc, ec⟩ := hc.ex
  let ⟨_, pa, ea⟩ := ha.ex
  let ⟨_, pb, eb⟩ := hb.ex
  ⟨_, ps_if pc pa pb, fun ws H s σ ρ o E S N h q => (ec.st) S N h q fun x s1 h ws1 H1 t1 S1 => by
    split at h
    · rename_i hx
      rw [if_pos hx]
      exact ea ws1 H1 s1 σ ρ o E S1 (N.stp t1) h (q.stp t1)
    · rename_i hx
      rw [if_neg hx]
      exact eb ws1 H1 s1 σ ρ o E S1 (N.stp t1) h (q.stp t1)⟩
/-- an expression alone -/
def fDrop (f : M D) : MS := bndS f fun _ ρ s => some (.nx ρ s)
theorem ds_expr (h : DE X C e fv) (hs : swapsWith e none pos.line X.env = pure false := by rfl) : DS X C (.Expr e pos) (fDrop fv) :=
  let ⟨_, pa, ea⟩ := h.ex
  ⟨_, ps_expr pa hs, fun ws H s σ ρ o E S N h q => (ea.st) S N h q fun x s1 h v ws1 H1 t1 S1 r1 => by
    cases h
    exact q σ ws1 H1 t1 S1 (N.stp t1)⟩
/-- target = value -/
def fAsg (f : M D) (g : D → Rho → Option Rho) : MS := bndS f fun x ρ s => (g x ρ).map fun ρ1 => .nx ρ1 s
theorem ev_asg {te : TE} {tg : TG} (ea : EvS C te fv) (eg : GOk C tg g is) : EvSt C (tAsg te tg) (fAsg fv g) := fun ws H s σ ρ o E S N h q => (ea.st) S N h q fun x s1 h v ws1 H1 t1 S1 r1 => by
  obtain ⟨ρ1, h2, rfl⟩ := Option.map_eq_some_iff.mp h
  exact eg ws1 H1 σ ρ x v ρ1 _ (N.stp t1) r1 h2 fun σ1 N1 _ => q σ1 ws1 H1 t1 S1 N1
theorem gok_nm {i : Nat} (hns : nsl C.x i) : GOk C (fun v σ H Q => Q (σ.set i (some v)) H) (gNm i) [i] := fun ws H σ ρ d v ρ' Q N r h q => by
  cases h
  exact q _ (N.set r hns) fun vs hv => wipe_in (hv i (List.mem_singleton.mpr rfl))
theorem ds_set (i : Nat) {x : Str} {pos' : Pos} (hN : X.N.Nodup) (h : DE X C e fv) (hi : X.N[i]? = some x := by rfl) (hx : Loc X.env.scope x := by first | exact Or.inl rfl | exact Or.inr rfl) (hs : swapsWith e (some (.Name x pos')) pos.line X.env = pure false := by rfl)
    (hf : X.fn x = true ∨ X.env.scope.names.lookup x = some .local := by first | exact .inl rfl | exact .inr rfl | assumption) (hns : nsl C.x i := by first | exact True.intro | (show (_ : Nat) ≠ _; decide)) : DS X C (.Assign [.Name x pos'] e pos) (fAsg fv (gNm i)) :=
  let ⟨_, pa, ea⟩ := h.ex
  ⟨_, ps_set hN hi hx pa hs hf, ev_asg (is := [i]) ea (gok_nm hns)⟩
theorem ds_asg {tg : Expr} (hg : DG X C tg g is) (h : DE X C e fv) (hs : swapsWithSole [tg] e pos.line X.env = pure false := by rfl) (hw : swappedStores [tg] e X.env = pure none := by rfl)
    (h1 : (assignEach [tg] X.env).map (·.2) = [assign tg X.env] := by rfl) : DS X C (.Assign [tg] e pos) (fAsg fv g) :=
  let ⟨_, pa, ea⟩ := h.ex
  let ⟨_, pg, eg⟩ := hg.ex
  ⟨_, ps_asg pa pg hs hw h1, ev_asg ea eg⟩
/-- name = [..] -/
theorem ds_setLc (j : Nat) {y : Str} (hc : X.calm = true) (hN : X.N.Nodup) (hi : DI X C tg iter fi) (ok : BlkOk X.N X.env.scope scope own) (hv : ∀ i ∈ is, i ∈ own.map (·.2))
    (hg : ∀ b : Blk, DG (b.cx X scope) C.in0 tg g is) (ht : ∀ b : Blk, DTs (b.cx X scope) C.in0 ifs ft) (he : ∀ b : Blk, DE (b.cx X scope) C.in0 elt fe)
    (hsw : swapsWith (.ListComp elt [⟨tg, iter, ifs, 0⟩] scope pos) (some (.Name y py)) spos.line X.env = pure true)
    (hvx : ∀ i ∈ own.map (·.2), nsl C.x i := by exact nsl_none) (hns : nsl C.x j := by first | exact True.intro | (show (_ : Nat) ≠ _; decide))
    (hy : X.N[j]? = some y := by rfl) (hyl : X.env.scope.names.lookup y = some .local := by rfl)
    (hs : ∀ x, foldedSetIterable iter X.env x = pure x := by intro _; rfl) : DS X C (.Assign [.Name y py] (.ListComp elt [⟨tg, iter, ifs, 0⟩] scope pos) spos) (fAsg (fLc fi g ft fe (own.map (·.2))) (gNm j)) :=
  let ⟨_, pi, ei⟩ := hi.ex
  let ⟨_, pg, eg⟩ := unify_G (C := C.in0) (Y := fun b : Blk => b.cx X scope) hg
  let ⟨_, pt, et⟩ := unify_T (C := C.in0) (Y := fun b : Blk => b.cx X scope) ht
  let ⟨_, pe, ee⟩ := unify_E (C := C.in0) (Y := fun b : Blk => b.cx X scope) he
  ⟨_, ps_setLc hc hN hy hyl hsw pi ok (fun s H C cl fp => pg ⟨s, H, C, cl, fp⟩) (fun s H C cl fp => pt ⟨s, H, C, cl, fp⟩) (fun s H C cl fp => pe ⟨s, H, C, cl, fp⟩) hs,
    ev_asg (is := [j]) (ev_lc ei eg hv hvx et ee) (gok_nm hns)⟩
/-- a, b = x, y -/
def fPar (i j : Nat) (fa : M (List D)) : MS := bndS fa fun xs ρ s => match xs with
  | [x, y] => some (.nx ((ρ.set i (some x)).set j (some y)) s)
  | _ => none
theorem ds_par (i j : Nat) {x y : Str} {a b : Expr} {fa : M (List D)} {px py pt : Pos} {kt k2 pt2} (hc : X.calm = true) (hN : X.N.Nodup) (ha : DA X C [a, b] fa) (hi : X.N[i]? = some x := by rfl) (hj : X.N[j]? = some y := by rfl) (hij : i ≠ j := by decide)
    (hx : X.env.scope.names.lookup x = some .local := by rfl) (hy : X.env.scope.names.lookup y = some .local := by rfl)
    (hw : swappedStores [.Tuple [.Name x px, .Name y py] kt pt] (.Tuple [a, b] k2 pt2) X.env = pure (some [x, y]) := by rfl)
    (hs : swapsWithSole [.Tuple [.Name x px, .Name y py] kt pt] (.Tuple [a, b] k2 pt2) pos.line X.env = pure false := by rfl)
    (hni : nsl C.x i := by first | exact True.intro | (show (_ : Nat) ≠ _; decide)) (hnj : nsl C.x j := by first | exact True.intro | (show (_ : Nat) ≠ _; decide)) :
    DS X C (.Assign [.Tuple [.Name x px, .Name y py] kt pt] (.Tuple [a, b] k2 pt2) pos) (fPar i j fa) :=
  let ⟨_, pa, ea⟩ := ha.ex
  ⟨_, ps_par hc hN hi hj hij hx hy pa hw hs, fun ws H s σ ρ o E S N h q => (ea.st) S N h q fun xs s1 h vs ws1 H1 t1 S1 r1 => by
    split at h
    · cases h
      obtain ⟨v, r, rfl, k1, w, r', rfl, k2, rfl⟩ := r1
      exact ⟨v, w, rfl, q _ ws1 H1 t1 S1 (((N.stp t1).set k1 hni).set k2 hnj)⟩
    · cases h⟩
/-- name op= e -/
def fAug (i : Nat) (gg : G2) (f : M D) : MS := fun ρ s => match ρ[i]? with
  | some (some x) => bndS f (fun y ρ s => (gg s x y).map fun z => .nx (ρ.set i (some z)) s) ρ s
  | _ => none
theorem ds_aug (i : Nat) {x : Str} {op : Operator} {r : R2} {gg : G2} {pos' : Pos} (hN : X.N.Nodup) (hr : OpR X (inplaceOp op) r) (ho : OpS C.T r gg) (h : DE X C e fv) (hi : X.N[i]? = some x := by rfl) (hx : Loc X.env.scope x := by first | exact Or.inl rfl | exact Or.inr rfl)
    (hf : X.fn x = true ∨ X.env.scope.names.lookup x = some .local := by first | exact .inl rfl | exact .inr rfl | assumption) (hns : nsl C.x i := by first | exact True.intro | (show (_ : Nat) ≠ _; decide)) : DS X C (.AugAssign (.Name x pos') op e pos) (fAug i gg fv) :=
  let ⟨_, pa, ea⟩ := h.ex
  ⟨_, ps_aug (ti := r) hN hi hx pa (fun pins s σ H x y v u Q I r1 r2 h => hr pins s σ H x y v u Q I r1 r2 h) hf, fun ws H s σ ρ o E S N h q => by
    unfold fAug at h
    split at h
    · rename_i d hd
      obtain ⟨v, e1, r1⟩ := N.at_ i _ hd
      refine ⟨v, e1, (ea.st) S N h q fun y s1 h u ws1 H1 t1 S1 r2 => ?_⟩
      obtain ⟨z, h2, rfl⟩ := Option.map_eq_some_iff.mp h
      exact ho ws1 H1 s1 _ y z v u _ S1 (r1.stp t1) r2 h2 fun w ws2 H2 t2 S2 r3 => q _ ws2 H2 (t1.trans t2) S2 (((N.stp t1).stp t2).set r3 hns)
    · cases h⟩
/-- while, at most so many turns -/
def fWhile (ft : M Bool) (fb : MS) : Nat → MS
  | 0 => fun _ _ => none
  | n + 1 => fun ρ s => match ft ρ s with
    | some (.ok true s1) => match fb ρ s1 with
      | some (.nx ρ2 s2) => fWhile ft fb n ρ2 s2
      | some (.ct ρ2 s2) => fWhile ft fb n ρ2 s2
      | some (.bk ρ2 s2) => some (.nx ρ2 s2)
      | some (.rt d s2) => some (.rt d s2)
      | some (.ex e ρ2 s2) => some (.ex e ρ2 s2)
      | none => none
    | some (.ok false s1) => some (.nx ρ s1)
    | some (.ex e s1) => some (.ex e ρ s1)
    | none => none
theorem ds_while (n : Nat) {fb : MS} (hp : PassesOwn (model X.prog X.w) X.A X.env X.xe) (hc : DT X C c t) (hb : DSs X C body fb) : DS X C (.While c body [] pos) (fWhile t fb n) :=
  let ⟨_, pc, ec⟩ := hc.ex
  let ⟨_, pb, eb⟩ := hb.ex
  ⟨_, ps_while hp pc pb, fun ws H s σ ρ o E S N h q => by
    refine ⟨fun m σ1 H1 => ∃ ws1 ρ1 s1, Stp ws H ws1 H1 ∧ Sta C.T ws1 H1 s1 ∧ EnvOk C.T C.x ws1 H1 σ1 ρ1 ∧ fWhile t fb m ρ1 s1 = some o, ⟨n, ws, ρ, s, Stp.refl _ _, S, N, h⟩, ?_⟩
    rintro m σ1 H1 ⟨ws1, ρ1, s1, t1, S1, N1, h1⟩
    cases m with
    | zero => cases h1
    | succ m =>
      unfold fWhile at h1
      split at h1
      · rename_i s2 h2
        refine ec ws1 H1 s1 σ1 ρ1 _ _ S1 N1 h2 True.intro fun d0 s0 e0 ws2 H2 t2 S2 => ?_
        cases e0
        rw [if_pos rfl]
        refine ⟨fun σ' H' => ∃ ws1 ρ1 s1, Stp ws H ws1 H' ∧ Sta C.T ws1 H' s1 ∧ EnvOk C.T C.x ws1 H' σ' ρ1 ∧ fWhile t fb m ρ1 s1 = some o, fun σ' H' z => ⟨m, Nat.lt_succ_self _, z⟩, ?_⟩
        have t12 := t1.trans t2
        split at h1
        · rename_i ρ3 s3 h3
          exact eb ws2 H2 _ σ1 ρ1 _ _ S2 (N1.stp t2) h3 fun σ' ws' H' t' S' N' => ⟨ws', ρ3, s3, t12.trans t', S', N', h1⟩
        · rename_i ρ3 s3 h3
          exact eb ws2 H2 _ σ1 ρ1 _ _ S2 (N1.stp t2) h3 fun σ' ws' H' t' S' N' => ⟨ws', ρ3, s3, t12.trans t', S', N', h1⟩
        · rename_i ρ3 s3 h3
          cases h1
          exact eb ws2 H2 _ σ1 ρ1 _ _ S2 (N1.stp t2) h3 (q.stp t12)
        · rename_i d s3 h3
          cases h1
          exact eb ws2 H2 _ σ1 ρ1 _ _ S2 (N1.stp t2) h3 (q.stp t12)
        · rename_i e ρ3 s3 h3
          cases h1
          exact eb ws2 H2 _ σ1 ρ1 _ _ S2 (N1.stp t2) h3 (q.stp t12)
        · cases h1
      · rename_i s2 h2
        cases h1
        refine ec ws1 H1 s1 σ1 ρ1 _ _ S1 N1 h2 True.intro fun d0 s0 e0 ws2 H2 t2 S2 => ?_
        cases e0
        rw [if_neg Bool.false_ne_true]
        exact q σ1 ws2 H2 (t1.trans t2) S2 (N1.stp t2)
      · rename_i e s2 h2
        cases h1
        exact ec ws1 H1 s1 σ1 ρ1 _ _ S1 N1 h2 (xok_of N1 (q.stp t1)) fun d0 s0 e0 => nomatch e0
      · cases h1⟩
/-- for -/
def forL (g : D → Rho → Option Rho) (fb : MS) (ck : Option (Nat × List D)) : List D → MS
  | [] => fun ρ s => if chk ck s = true then some (.nx ρ s) else none
  | d :: ds => fun ρ s => if chk ck s = true then match g d ρ with
    | some ρ1 => match fb ρ1 s with
      | some (.nx ρ2 s2) => forL g fb ck ds ρ2 s2
      | some (.ct ρ2 s2) => forL g fb ck ds ρ2 s2
      | some (.bk ρ2 s2) => some (.nx ρ2 s2)
      | some (.rt d s2) => some (.rt d s2)
      | some (.ex e ρ2 s2) => some (.ex e ρ2 s2)
      | none => none
    | none => none
    else none
def fFor (fi : M Src) (g : D → Rho → Option Rho) (fb : MS) : MS := bndS fi fun z => forL g fb z.2 z.1
theorem ds_for {fb : MS} (hp : PassesOwn (model X.prog X.w) X.A X.env X.xe) (hc : X.calm = true) (hi : DI X C tg iter fi) (hg : DG X C tg g is) (hb : DSs X C body fb) (hs : ∀ x, foldedSetIterable iter X.env x = pure x := by intro _; rfl) : DS X C (.For tg iter body [] pos) (fFor fi g fb) :=
  let ⟨_, pi, ei⟩ := hi.ex
  let ⟨_, pg, eg⟩ := hg.ex
  let ⟨_, pb, eb⟩ := hb.ex
  ⟨_, ps_for hp hc pi pg pb hs, fun ws H s σ ρ o E S N h q => (ei.st) S N h q fun z s0 h J ws0 H0 t0 S0 wk => by
    refine ⟨fun i m σ1 H1 => m = z.1.length - i ∧ i ≤ z.1.length ∧ ∃ ws1 ρ1 s1, Stp ws0 H0 ws1 H1 ∧ Sta C.T ws1 H1 s1 ∧ EnvOk C.T C.x ws1 H1 σ1 ρ1 ∧ forL g fb z.2 (z.1.drop i) ρ1 s1 = some o, ⟨_, rfl, Nat.zero_le _, ws0, ρ, s0, Stp.refl _ _, S0, N.stp t0, by rw [List.drop_zero]; exact h⟩, ?_⟩
    rintro i m σ1 H1 ⟨rfl, hle, ws1, ρ1, s1, t1, S1, N1, h1⟩
    by_cases hlt : i < z.1.length
    · rw [List.drop_eq_getElem_cons hlt] at h1
      unfold forL at h1
      split at h1
      · rename_i hck
        split at h1
        · rename_i ρ2 hg2
          obtain ⟨go, yl⟩ := wk.step i z.1[i] ws1 H1 s1 t1.q S1 hck (List.getElem?_eq_getElem hlt)
          refine .inr ⟨go, fun σ' H' => ∃ ws1 ρ1 s1, Stp ws0 H0 ws1 H' ∧ Sta C.T ws1 H' s1 ∧ EnvOk C.T C.x ws1 H' σ' ρ1 ∧ forL g fb z.2 (z.1.drop (i + 1)) ρ1 s1 = some o, fun σ' H' w => ⟨_, by omega, rfl, hlt, w⟩, fun x H2 y => ?_⟩
          obtain ⟨t2, S2, r2⟩ := yl x H2 y
          refine eg ws1 H2 σ1 ρ1 _ x ρ2 _ (N1.stp t2) r2 hg2 fun σ2 N2 _ => ?_
          have t12 := t1.trans t2
          split at h1
          · rename_i ρ3 s3 h3
            exact eb ws1 H2 s1 σ2 ρ2 _ _ S2 N2 h3 fun σ' ws' H' t' S' N' => ⟨ws', ρ3, s3, t12.trans t', S', N', h1⟩
          · rename_i ρ3 s3 h3
            exact eb ws1 H2 s1 σ2 ρ2 _ _ S2 N2 h3 fun σ' ws' H' t' S' N' => ⟨ws', ρ3, s3, t12.trans t', S', N', h1⟩
          · rename_i ρ3 s3 h3
            cases h1
            exact eb ws1 H2 s1 σ2 ρ2 _ _ S2 N2 h3 (q.stp (t0.trans t12))
          · rename_i d s3 h3
            cases h1
            exact eb ws1 H2 s1 σ2 ρ2 _ _ S2 N2 h3 (q.stp (t0.trans t12))
          · rename_i e ρ3 s3 h3
            cases h1
            exact eb ws1 H2 s1 σ2 ρ2 _ _ S2 N2 h3 (q.stp (t0.trans t12))
          · cases h1
        · cases h1
      · cases h1
    · have e : i = z.1.length := by omega
      subst e
      rw [List.drop_length] at h1
      unfold forL at h1
      split at h1
      · rename_i hck
        cases h1
        exact .inl ⟨wk.stop ws1 H1 s1 t1.q S1 hck, q σ1 ws1 H1 (t0.trans t1) S1 N1⟩
      · cases h1⟩
/-- o[i] = v, o an owned list -/
def putD (s : Sto) (o i v : D) : Option Sto := match o, i with
  | .own l, .int k => match lstAt s l with
    | some ds => match ixN ds.length k with
      | some j => some (s.set l (.lst (ds.set j v)))
      | none => none
    | none => none
  | _, _ => none
def fSub (fv fo fi : M D) : MS := bndS fv fun v => bndS fo fun o => bndS fi fun i ρ s => (putD s o i v).map fun s1 => .nx ρ s1
theorem ds_sub {o i : Expr} {fo fi : M D} {pos' : Pos} (h : DE X C e fv) (ho : DE X C o fo) (hi : DE X C i fi) (hs : swapsWithSole [.Subscript o i pos'] e pos.line X.env = pure false := by rfl) (hw : swappedStores [.Subscript o i pos'] e X.env = pure none := by rfl)
    (h1 : (assignEach [.Subscript o i pos'] X.env).map (·.2) = [assign (.Subscript o i pos') X.env] := by rfl)
    (ha : ∀ v, assign (.Subscript o i pos') X.env v = (do
      let ov ← holding [v] (eval o X.env)
      let iv ← holding [v, ov] (eval i X.env)
      standAt pos'
      holding [v, ov, iv] (setItem ov iv v)
      release [v, ov, iv] []) := by intro _; rfl) : DS X C (.Assign [.Subscript o i pos'] e pos) (fSub fv fo fi) :=
  let ⟨_, pa, ea⟩ := h.ex
  let ⟨_, po, eo⟩ := ho.ex
  let ⟨_, pi, ei⟩ := hi.ex
  ⟨_, ps_asg pa (pg_sub po pi set_list ha) hs hw h1, fun ws H s σ ρ out E S N h q =>
    (ea.st) S N h q fun v s1 k1 vv ws1 H1 t1 S1 r1 => (eo.st) S1 (N.stp t1) k1 (q.stp t1) fun od s2 k2 ov ws2 H2 t2 S2 r2 => (ei.st) S2 ((N.stp t1).stp t2) k2 ((q.stp t1).stp t2) fun id' s3 k3 iv ws3 H3 t3 S3 r3 => by
    obtain ⟨s4, k4, rfl⟩ := Option.map_eq_some_iff.mp k3
    unfold putD at k4
    split at k4
    · rename_i l k
      split at k4
      · rename_i ds hds
        split at k4
        · rename_i j hj
          cases k4
          obtain ⟨a, ha1, rfl⟩ := r2.stp t3
          cases r3
          obtain ⟨xs, hx, rx⟩ := S3.lst ha1 hds
          have rv := (r1.stp t2).stp t3
          have S4 := S3.put (so := .lst (ds.set j v)) (o := .lst (xs.set j vv)) ha1 (rx.set rv j)
          have t4 : Stp ws3 H3 ws3 (upd H3 a (.lst (xs.set j vv))) := S3.stp_put ha1
          exact ⟨a, xs, k, j, rfl, rfl, hx, by rw [← rx.length]; exact hj, q σ ws3 _ (((t1.trans t2).trans t3).trans t4) S4 ((((N.stp t1).stp t2).stp t3).stp t4)⟩
        · cases k4
      · cases k4
    · cases k4⟩
/-- xs.append(y), xs owned -/
def appD (s : Sto) (o v : D) : Option Sto := match o with
  | .own l => match lstAt s l with
    | some ds => if ds.length < LIM then some (s.set l (.lst (ds ++ [v]))) else none
    | none => none
  | _ => none
def fApp (fo fv : M D) : M D := bnd fo fun o => bnd fv fun v => fun _ s => (appD s o v).map fun s1 => .ok .non s1
theorem own_at {T : Kt} {ws : Ws} {H : Hp} {s : Sto} {l : Nat} {a : Addr} (S : Sta T ws H s) (h : ws.own[l]? = some a) : ∃ o so, s[l]? = some so ∧ H a = some o ∧ SoRel T ws (mask ws H) o so := by
  have hl : l < s.length := by rw [← S.len]; exact (List.getElem?_eq_some_iff.mp h).1
  obtain ⟨o, h1, h2⟩ := S.own l a s[l] h (List.getElem?_eq_getElem hl)
  exact ⟨o, s[l], List.getElem?_eq_getElem hl, h1, h2⟩
/-- an owned list when its method is looked up: it must be a list already there -/
def isOL (s : Sto) : D → Bool
  | .own l => (lstAt s l).isSome
  | _ => false
def fOL (f : M D) : M D := bnd f fun x => got fun s => if isOL s x = true then some x else none
theorem de_append {o v : Expr} {fo fv : M D} {apos : Pos} (ho : DE X C o fo) (hv : DE X C v fv)
    (hbase : attributeBase o "append" X.env (eval o X.env) = eval o X.env := by rfl)
    (hfew : ((backTo pos (starEach [v] X.env)).all (fun x => !x.1) && (backToKw pos (keywordEach [] X.env)).all (fun x => x.1.isSome)
      && decide ([v].length + ([] : List Keyword).length + (if ([] : List Keyword).isEmpty then 0 else 1) < 30)) = true := by rfl)
    (hline : (apos.endLine == pos.line) = true := by rfl) (hs : starEach [v] X.env = (false, eval v X.env) :: starEach [] X.env := by rfl) (hplain : (backTo pos (starEach [] X.env)).any (·.1) = false := by rfl) :
    DE X C (.Call (.Attribute o "append" apos) [v] [] pos) (fApp (fOL fo) fv) :=
  let ⟨_, po, eo⟩ := ho.ex
  let ⟨_, pv', ev'⟩ := hv.ex
  ⟨_, pe_bm PySem.F.plainAttrs_list PySem.F.slot_list_append PySem.F.type_list_append mt_append po (pa_cons pv' pa_nil hs) hbase hfew hline hs hplain, fun ws H s σ ρ R Q S N h xx q => by
    have h' : bnd fo (fun x => bnd (got fun s => if isOL s x = true then some x else none) fun o => bnd fv fun v => fun _ s => (appD s o v).map fun s1 => Res.ok D.non s1) ρ s = some R := by
      rw [← h]
      unfold fApp fOL bnd
      cases fo ρ s with
      | none => rfl
      | some r => cases r <;> rfl
    refine (eo.b) S N h' xx fun od s1 k1 ov ws1 H1 t1 S1 r1 => ?_
    obtain ⟨od', g1, k1⟩ := bnd_got k1
    split at g1
    · rename_i hol
      cases g1
      cases od with
      | own l =>
        obtain ⟨a, ha1, rfl⟩ := r1
        obtain ⟨ds0, hds0⟩ := Option.isSome_iff_exists.mp hol
        obtain ⟨xs0, hx0, _⟩ := S1.lst ha1 hds0
        refine ⟨.inl ⟨rfl, xs0, SqL.of hx0⟩, ?_⟩
        refine (ev'.b) S1 (N.stp t1) k1 (xx.stp t1) fun vd s2 k2 vv ws2 H2 t2 S2 r2 => ?_
        obtain ⟨s3, k3, rfl⟩ := Option.map_eq_some_iff.mp k2
        unfold appD at k3
        dsimp only at k3
        split at k3
        · rename_i ds hds
          split at k3
          · rename_i hlt
            cases k3
            have ha2 := pre_get t2.pre ha1
            obtain ⟨xs, hx, rx⟩ := S2.lst ha2 hds
            have S4 := S2.put (so := .lst (ds ++ [vd])) (o := .lst (xs ++ [vv])) ha2 (Reps.append (ds := ds) (es := [vd]) rx ⟨vv, [], rfl, r2, rfl⟩)
            have t4 : Stp ws2 H2 ws2 (upd H2 a (.lst (xs ++ [vv]))) := S2.stp_put ha2
            exact ⟨a, xs, vv, rfl, rfl, hx, lim_lt (by rw [← rx.length]; exact hlt), q _ _ rfl _ ws2 _ ((t1.trans t2).trans t4) S4 rfl⟩
          · cases k3
        · cases k3
      | _ => exact absurd hol (by simp [isOL])
    · cases g1⟩
end
end
end VM
set_option Elab.async false
set_option maxRecDepth 100000
set_option maxHeartbeats 4000000
set_option linter.all false
set_option autoImplicit false
namespace VM
open PySem L2
noncomputable section

/-! ### a def's value -/
mutual
/-- no owned object of a number from n on -/
def low (n : Nat) : D → Bool
  | .own l => decide (l < n)
  | .lst ds => lows n ds
  | .tup ds => lows n ds
  | .lck ds => lows n ds
  | .ins _ _ ds => lows n ds
  | .dct _ _ ds => lows n ds
  | _ => true
def lows (n : Nat) : List D → Bool
  | [] => true
  | d :: ds => low n d && lows n ds
end
def lowS (n : Nat) : SO → Bool
  | .lst ds => lows n ds
  | .ins _ _ ds => lows n ds
  | .dct _ _ ds => lows n ds
  | .set _ _ => true
def frz : SO → D
  | .lst ds => .lst ds
  | .ins c ns ds => .ins c ns ds
  | .dct t ks ds => .dct t ks ds
  | .set t ds => .set t ds
abbrev Ws.tk (ws : Ws) (n : Nat) : Ws := ⟨ws.own.take n, ws.hid⟩
theorem mask_take {ws : Ws} {H : Hp} (n : Nat) : ∀ a o, mask ws H a = some o → mask (ws.tk n) H a = some o := fun a o h => by
  obtain ⟨k, h⟩ := mask_some h
  rw [mask_of (ws := ws.tk n) ⟨fun z => k.1 (List.mem_of_mem_take z), k.2⟩]
  exact h
mutual
theorem low_m {T : Kt} {ws : Ws} {M : Hp} {n : Nat} : ∀ (d : D) (v : V), Rep T ws M d v → low n d = true → Rep T (ws.tk n) M d v
  | .non, _, h, _ => h
  | .bl _, _, h, _ => h
  | .int _, _, h, _ => h
  | .str _, _, h, _ => h
  | .fn _, _, h, _ => h
  | .set t ds, _, h, _ => h
  | .lst ds, _, ⟨a, xs, hv, hs, hr⟩, hl => ⟨a, xs, hv, hs, lows_m ds xs hr (by simpa only [low] using hl)⟩
  | .lck ds, _, ⟨a, xs, hv, hs, hr⟩, hl => ⟨a, xs, hv, hs, lows_m ds xs hr (by simpa only [low] using hl)⟩
  | .tup ds, _, ⟨a, xs, hv, hs, hr⟩, hl => ⟨a, xs, hv, hs, lows_m ds xs hr (by simpa only [low] using hl)⟩
  | .ins c ns ds, _, ⟨a, dx, fs, hv, hs, h1, h2, hr⟩, hl => ⟨a, dx, fs, hv, hs, h1, h2, lows_m ds _ hr (by simpa only [low] using hl)⟩
  | .dct t ks ds, _, ⟨a, hv, h⟩, hl => ⟨a, hv, h.elim (fun ⟨t, kvs, h1, h2, h3⟩ => .inl ⟨t, kvs, h1, h2, lows_m ds _ h3 (by simpa only [low] using hl)⟩) fun ⟨t, kvs, h1, h2, h3⟩ => .inr ⟨t, kvs, h1, h2, lows_m ds _ h3 (by simpa only [low] using hl)⟩⟩
  | .own l, _, ⟨a, h, hv⟩, hl => ⟨a, by
      have : l < n := by simpa only [low, decide_eq_true_eq] using hl
      show (ws.own.take n)[l]? = some a
      rw [List.getElem?_take_of_lt this]
      exact h, hv⟩
theorem lows_m {T : Kt} {ws : Ws} {M : Hp} {n : Nat} : ∀ (ds : List D) (vs : List V), Reps T ws M ds vs → lows n ds = true → Reps T (ws.tk n) M ds vs
  | [], _, h, _ => h
  | d :: ds, _, ⟨v, r, hv, h1, h2⟩, hl => by
    have hl' : low n d = true ∧ lows n ds = true := by simpa only [lows, Bool.and_eq_true] using hl
    exact ⟨v, r, hv, low_m d v h1 hl'.1, lows_m ds r h2 hl'.2⟩
end
theorem lowS_m {T : Kt} {ws : Ws} {M : Hp} {n : Nat} {o : HO} {so : SO} (h : SoRel T ws M o so) (hl : lowS n so = true) : SoRel T (ws.tk n) M o so := by
  cases so with
  | lst ds => cases o <;> first | exact h.elim | exact lows_m _ _ h hl
  | ins c ns vs => cases o <;> first | exact h.elim | exact ⟨h.1, h.2.1, h.2.2.1, lows_m _ _ h.2.2.2 hl⟩
  | dct t ks vs => cases o <;> first | exact h.elim | exact ⟨h.1, h.2.1, lows_m _ _ h.2.2 hl⟩
  | set t ds => cases o <;> exact h.elim
theorem low_ok {T : Kt} {ws : Ws} {H : Hp} {n : Nat} (d : D) (v : V) (r : Rep T ws (mask ws H) d v) (h : low n d = true) : Rep T (ws.tk n) (mask (ws.tk n) H) d v :=
  Rep.mono (ws := ws.tk n) (ws' := ws.tk n) (List.prefix_refl _) (mask_take n) d v (low_m d v r h)
theorem lowS_ok {T : Kt} {ws : Ws} {H : Hp} {n : Nat} {o : HO} {so : SO} (h : SoRel T ws (mask ws H) o so) (hl : lowS n so = true) : SoRel T (ws.tk n) (mask (ws.tk n) H) o so :=
  SoRel.mono (ws := ws.tk n) (ws' := ws.tk n) (List.prefix_refl _) (mask_take n) (lowS_m h hl)
theorem frz_ok {T : Kt} {ws : Ws} {M : Hp} {o : HO} {so : SO} {a : Addr} (h : SoRel T ws M o so) (e : M a = some o) : Rep T ws M (frz so) (.ref a) := by
  cases so with
  | lst ds => cases o <;> first | exact h.elim | exact ⟨a, _, rfl, e, h⟩
  | ins c ns vs =>
    cases o <;> first
      | exact h.elim
      | (obtain ⟨h1, h2, h3, h4⟩ := h; subst h1; exact ⟨a, _, _, rfl, e, h2, h3, h4⟩)
  | dct t ks vs => cases o <;> first | exact h.elim | exact ⟨a, rfl, .inl ⟨h.1, _, e, h.2⟩⟩ | exact ⟨a, rfl, .inr ⟨h.1, _, e, h.2⟩⟩
  | set t ds => cases o <;> exact h.elim
/-- the value that is handed back, the def's own objects forgotten; one of them that is handed back is frozen, or (kp) stays owned -/
def fin (kp : Bool) (n : Nat) (d : D) (s : Sto) : Option (Res D) :=
  if (s.take n).all (lowS n) = true then
    match d with
    | .own l => if l < n then some (.ok (.own l) (s.take n)) else match s[l]? with
      | some so => if lowS n so = true then (if kp = true then some (.ok (.own n) (s.take n ++ [so])) else some (.ok (frz so) (s.take n))) else none
      | none => none
    | d => if low n d = true then some (.ok d (s.take n)) else none
  else none
def finX (n : Nat) (e : Exn) (s : Sto) : Option (Res D) :=
  if (s.take n).all (lowS n) = true ∧ low n e.p = true then some (.ex e (s.take n)) else none
theorem sta_take {T : Kt} {ws ws' : Ws} {H H' : Hp} {s0 s : Sto} (S0 : Sta T ws H s0) (t : Stp ws H ws' H') (S : Sta T ws' H' s) (hall : (s.take s0.length).all (lowS s0.length) = true) :
    Sta T (ws'.tk s0.length) H' (s.take s0.length) ∧ Stp ws H (ws'.tk s0.length) H' := by
  have hlen : ws.own.length = s0.length := S0.len
  have htk : ws'.own.take s0.length = ws.own := by
    obtain ⟨r, e⟩ := t.pre
    rw [← e, ← hlen, List.take_left]
  refine ⟨⟨S.nd.sublist (List.take_sublist _ _), by rw [List.length_take, List.length_take, S.len], fun a z q => S.dis a z (List.mem_of_mem_take q), S.hid, fun l a so e1 e2 => ?_⟩, ⟨by show ws.own <+: ws'.own.take s0.length; rw [htk]; exact List.prefix_refl _, t.hid, fun a o e => mask_take _ a o (t.fz a o e), t.hk⟩⟩
  have hl : l < s0.length := by
    have := (List.getElem?_eq_some_iff.mp e2).1
    rw [List.length_take] at this
    omega
  have e1' : ws'.own[l]? = some a := by
    have e1 : (ws'.own.take s0.length)[l]? = some a := e1
    rwa [List.getElem?_take_of_lt hl] at e1
  have hm := List.all_eq_true.mp hall so (List.mem_of_getElem? e2)
  rw [List.getElem?_take_of_lt hl] at e2
  obtain ⟨o, k1, k2⟩ := S.own l a so e1' e2
  exact ⟨o, k1, lowS_ok k2 hm⟩
theorem fin_ok {T : Kt} {ws ws' : Ws} {H H' : Hp} {s0 s s2 : Sto} {d d2 : D} {v : V} {kp : Bool} (S0 : Sta T ws H s0) (t : Stp ws H ws' H') (S : Sta T ws' H' s) (r : Rep T ws' (mask ws' H') d v) (h : fin kp s0.length d s = some (.ok d2 s2)) :
    ∃ ws2, Stp ws H ws2 H' ∧ Sta T ws2 H' s2 ∧ Rep T ws2 (mask ws2 H') d2 v := by
  unfold fin at h
  split at h
  · rename_i hall
    obtain ⟨Sx, tx⟩ := sta_take S0 t S hall
    split at h
    · rename_i l
      split at h
      · rename_i hl
        cases h
        exact ⟨_, tx, Sx, low_ok (.own l) v r (by simp only [low, decide_eq_true_eq]; exact hl)⟩
      · rename_i hl
        split at h
        · rename_i so hso
          split at h
          · rename_i hlow
            obtain ⟨a, ha, rfl⟩ := r
            obtain ⟨o, k1, k2⟩ := S.own l a so ha hso
            have k3 := lowS_ok k2 hlow
            have hna : a ∉ ws'.own.take s0.length := fun z => by
              obtain ⟨j, hj, e⟩ := List.getElem_of_mem z
              have hj' : j < s0.length := by
                have := hj
                simp only [List.length_take] at this
                omega
              have e3 : ws'.own[j]? = some a := by
                have : (ws'.own.take s0.length)[j]? = some a := by rw [List.getElem?_eq_getElem hj, e]
                rwa [List.getElem?_take_of_lt hj'] at this
              exact hl (nd_ix S.nd e3 ha ▸ hj')
            have hnh : a ∉ ws'.hid := fun z => S.dis a z (List.mem_of_getElem? ha)
            split at h
            · cases h
              -- it stays owned
              let wn : Ws := ⟨ws'.own.take s0.length ++ [a], ws'.hid⟩
              have hle : s0.length ≤ ws'.own.length := by
                obtain ⟨r, e⟩ := t.pre
                rw [← e, List.length_append, S0.len]
                omega
              have hln : (ws'.own.take s0.length).length = s0.length := by rw [List.length_take]; omega
              have hls : (s.take s0.length).length = s0.length := by rw [List.length_take, ← S.len]; omega
              have hmm : ∀ b o, mask ws' H' b = some o → mask wn H' b = some o := fun b o e => by
                obtain ⟨k, e⟩ := mask_some e
                rw [mask_of (ws := wn) ⟨fun z => (List.mem_append.mp z).elim (fun z => k.1 (List.mem_of_mem_take z)) fun z => k.1 (by rw [show b = a by simpa using z]; exact List.mem_of_getElem? ha), k.2⟩]
                exact e
              have up : ∀ {o : HO} {q : SO}, SoRel T ws' (mask ws' H') o q → lowS s0.length q = true → SoRel T wn (mask wn H') o q := fun {o q} k hl => SoRel.mono (ws := ws'.tk s0.length) (ws' := wn) (List.prefix_append _ _) hmm (lowS_m k hl)
              refine ⟨wn, ⟨(show ws.own <+: ws'.own.take s0.length from tx.pre).trans (List.prefix_append _ _), t.hid, fun b o e => hmm b o (t.fz b o e), t.hk⟩, ⟨nodup_snoc (S.nd.sublist (List.take_sublist _ _)) hna, by show (ws'.own.take s0.length ++ [a]).length = (s.take s0.length ++ [so]).length; rw [List.length_append, List.length_append, hln, hls] <;> rfl, fun b z q => ?_, S.hid, fun l' b so' e1 e2 => ?_⟩, a, ?_, rfl⟩
              · rcases List.mem_append.mp q with q | q
                · exact S.dis b z (List.mem_of_mem_take q)
                · rw [show b = a by simpa using q] at z
                  exact hnh z
              · by_cases hl' : l' < s0.length
                · have e1 : (ws'.own.take s0.length ++ [a])[l']? = some b := e1
                  rw [List.getElem?_append_left (by rw [hln]; exact hl'), List.getElem?_take_of_lt hl'] at e1
                  rw [List.getElem?_append_left (by rw [hls]; exact hl')] at e2
                  have hm := List.all_eq_true.mp hall so' (List.mem_of_getElem? e2)
                  rw [List.getElem?_take_of_lt hl'] at e2
                  obtain ⟨o', q1, q2⟩ := S.own l' b so' e1 e2
                  exact ⟨o', q1, up q2 hm⟩
                · have e1 : (ws'.own.take s0.length ++ [a])[l']? = some b := e1
                  have hlt := (List.getElem?_eq_some_iff.mp e1).1
                  rw [List.length_append, hln] at hlt
                  have : l' = s0.length := by simp at hlt; omega
                  subst this
                  rw [List.getElem?_append_right (by rw [hln]; exact Nat.le_refl _), hln] at e1
                  rw [List.getElem?_append_right (by rw [hls]; exact Nat.le_refl _), hls] at e2
                  simp at e1 e2
                  subst e1 e2
                  exact ⟨o, k1, up k2 hlow⟩
              · show (ws'.own.take s0.length ++ [a])[s0.length]? = some a
                rw [List.getElem?_append_right (by rw [hln]; exact Nat.le_refl _), hln]
                simp
            · cases h
              refine ⟨_, tx, Sx, frz_ok k3 ?_⟩
              rw [mask_of (ws := ws'.tk s0.length) ⟨hna, hnh⟩]
              exact k1
          · cases h
        · cases h
    · split at h
      · rename_i hlow
        cases h
        exact ⟨_, tx, Sx, low_ok _ v r hlow⟩
      · cases h
  · cases h
def startD (N : Nat) (ds : List D) : Rho := ds.map some ++ List.replicate (N - ds.length) none
/-- a def's body as a function -/
def run (kp : Bool) (N : Nat) (f : MS) : FM := fun s ds => match f (startD N ds) s with
  | some (.rt d s') => fin kp s.length d s'
  | some (.nx _ s') => fin kp s.length .non s'
  | some (.ex e _ s') => finX s.length e s'
  | _ => none
theorem env_start {T : Kt} {ws : Ws} {H : Hp} {ds : List D} {vs : List V} {N : List Str} (r : Reps T ws (mask ws H) ds vs) : EnvOk T none ws H (L2.start N vs) (startD N.length ds) := by
  unfold L2.start startD
  refine ⟨by simp [r.length], fun i d e => ?_, fun q z => nomatch z⟩
  by_cases hi : i < ds.length
  · rw [List.getElem?_append_left (by simpa using hi)] at e
    rw [List.getElem?_append_left (by simpa [← r.length] using hi)]
    simp only [List.getElem?_map, Option.map_eq_some_iff] at e ⊢
    obtain ⟨x, e, e2⟩ := e
    cases e2
    obtain ⟨v, e1, r1⟩ := r.get e
    exact ⟨v, ⟨v, e1, rfl⟩, r1⟩
  · rw [List.getElem?_append_right (by simpa using hi), List.getElem?_replicate] at e
    split at e
    · cases e
    · cases e
theorem fin_res {kp : Bool} {n : Nat} {d : D} {s : Sto} {r : Res D} (h : fin kp n d s = some r) : ∃ d2 s2, r = .ok d2 s2 := by
  unfold fin at h
  repeat' split at h
  all_goals first
    | cases h; done
    | (cases h; exact ⟨_, _, rfl⟩)
theorem finX_ok {T : Kt} {ws ws' : Ws} {H H' : Hp} {s0 s : Sto} {e : Exn} {cls : Value} {dx : Option Addr} {r : Res D} (S0 : Sta T ws H s0) (t : Stp ws H ws' H') (S : Sta T ws' H' s) (x : ExRep T ws' H' e cls dx) (h : finX s0.length e s = some r) :
    ∃ s2 ws2, r = .ex e s2 ∧ Stp ws H ws2 H' ∧ Sta T ws2 H' s2 ∧ ExRep T ws2 H' e cls dx := by
  unfold finX at h
  split at h
  · rename_i hh
    cases h
    obtain ⟨Sx, tx⟩ := sta_take S0 t S hh.1
    obtain ⟨h1, d, fs, v, h2, h3, h4, h5, h6⟩ := x
    exact ⟨_, _, rfl, tx, Sx, h1, d, fs, v, h2, mask_take _ _ _ h3, h4, low_ok _ _ h5 hh.2, h6⟩
  · cases h
section
variable {P : Program} {w : World} {T : Kt} {mg : Str → Option Value} {base : Heap}
/-- the wish of a def's body about errors -/
abbrev WD (E : XK) : WX := fun cls d _ H => E cls d H
/-- THE RULE for a def -/
theorem fn_ok {x qual : Str} {st : Stmt} {f : Addr} {fd : FuncData} {N ps : List Str} {k : Nat} {g : MS} {m : FM} (kp : Bool) (F : Fun T.K x qual st f fd) (S : FnScope N ps (defScope st))
    (hbody : ∀ (cdv : Value) (A : Around) (outer : List Env) (s : Shared) (H : Hp) (E : XK), Room k (A.deeper (PyProof.Rows.envOfC qual (defScope st) s.heap.objs.size f cdv)) →
      Takes (cxOf (L2.CX P w) P w T.K mg base N qual (defScope st) f cdv A outer s H E) (WD E) → PassesOwn (model P w) (cxOf (L2.CX P w) P w T.K mg base N qual (defScope st) f cdv A outer s H E).A (cxOf (L2.CX P w) P w T.K mg base N qual (defScope st) f cdv A outer s H E).env (cxOf (L2.CX P w) P w T.K mg base N qual (defScope st) f cdv A outer s H E).xe →
      DSs (cxOf (L2.CX P w) P w T.K mg base N qual (defScope st) f cdv A outer s H E) ⟨T, WD E, none⟩ (defBody st) g)
    (hm : ∀ s ds r, m s ds = some r → run kp N.length g s ds = some r) : FnOk P w T.K mg base (L2.CX P w) (k + 1) f fd ps (spF T ps.length m) := by
  refine F.okX S (fun vs H Q E h => h.1) (fun cdv A outer s H vs Q E hr h => ?_)
  obtain ⟨hl, ws, s0, ds, r0, S0, r, hv, hx, q⟩ := h
  obtain ⟨t, pb, eb⟩ := (hbody cdv A outer s H E hr (takes_of rfl rfl rfl rfl) (passes_of rfl)).ex
  refine ⟨t, pb, ?_⟩
  have h2 := hm _ _ _ hv
  unfold run at h2
  split at h2
  · rename_i d1 s1 h3
    refine eb ws H s0 _ _ _ _ S0 (env_start r) h3 fun v ws1 H1 t1 S1 r1 => ?_
    obtain ⟨d2, s2, rfl⟩ := fin_res h2
    obtain ⟨ws2, t2, S2, r2⟩ := fin_ok S0 t1 S1 r1 h2
    exact q _ _ rfl v ws2 H1 t2 S2 r2
  · rename_i ρ1 s1 h3
    refine eb ws H s0 _ _ _ _ S0 (env_start r) h3 fun σ1 ws1 H1 t1 S1 N1 => ?_
    obtain ⟨d2, s2, rfl⟩ := fin_res h2
    obtain ⟨ws2, t2, S2, r2⟩ := fin_ok (d := .non) (v := .non) S0 t1 S1 rfl h2
    exact q _ _ rfl .non ws2 H1 t2 S2 r2
  · rename_i e ρ1 s1 h3
    refine eb ws H s0 _ _ _ _ S0 (env_start r) h3 fun σ1 cls dx ws1 H1 t1 S1 N1 x1 => ?_
    obtain ⟨s2, ws2, rfl, t2, S2, x2⟩ := finX_ok S0 t1 S1 x1 h2
    exact hx cls dx ws2 H1 t2 S2 x2
  · cases h2
/-- a def that is never called -/
theorem fn_none {CX : CXT} {f : Addr} {fd : FuncData} {ps : List Str} {k n : Nat} (hn : n = ps.length) : FnOk P w T.K mg base CX k f fd ps (spF T n fun _ _ => none) :=
  ⟨fun vs H Q E h => h.1.trans hn, fun A outer s H args us vs Q E hr he hb hv hs => by
    obtain ⟨_, ws, s0, ds, r, _, _, e, _⟩ := hs
    cases e⟩
end
end
end VM
set_option Elab.async false
set_option maxRecDepth 100000
set_option maxHeartbeats 4000000
set_option linter.all false
set_option autoImplicit false
/-! Errors: raised, caught. -/
namespace L2
open PySem PySem.Spec PyProof.Rows
/-- what the clauses wish of an exception of the body, one after the other; some with a name (its slot) -/
def wGen (K : PySem.W.Frag) (Wout : WX) (D : Ends) : List (Value × Option Nat × (Addr → Value → Option Addr → TS)) → WX
  | [] => Wout
  | (c, none, ts) :: r => fun cls d σ H => ∃ b, PySem.W.exmOne K cls c = some b ∧ (b = true → ∀ a, H a = none → ts a cls d D σ H) ∧ (b = false → wGen K Wout D r cls d σ H)
  | (c, some i, ts) :: r => fun cls d σ H => ∃ b, PySem.W.exmOne K cls c = some b ∧ (b = true → ∀ a, H a = none → ts a cls d { nx := fun σ' H' => D.nx (σ'.set i none) H', rt := D.rt, bk := fun σ' H' => D.bk (σ'.set i none) H', ct := fun σ' H' => D.ct (σ'.set i none) H' } (σ.set i (some (.ref a))) H) ∧ (b = false → wGen K Wout D r cls d σ H)
inductive HdsG (X : Cx) : List ExceptHandler → List (Value × Option Nat × (Addr → Value → Option Addr → TS)) → Prop
  | nil : HdsG X [] []
  | cons {x : Str} {c : Value} {ts : Addr → Value → Option Addr → TS} {b₀ : Stmt} {suite : List Stmt} {np pos' : Pos} {hds : List ExceptHandler} {l : List (Value × Option Nat × (Addr → Value → Option Addr → TS))} (hc : Names X x c)
      (hsu : ∀ (a : Addr) (oe : Obj) (cls : Value) (d : Option Addr) (pn : List (Addr × Obj)), Zc cls d oe → (∃ vs, oe.data = .fields vs) → PSs (X.suite a ((a, oe) :: pn)) (b₀ :: suite) (ts a cls d)) (r : HdsG X hds l) :
      HdsG X (.ExceptHandler (some (.Name x np)) none (b₀ :: suite) pos' :: hds) ((c, none, ts) :: l)
  | consN {x n : Str} {i : Nat} {c : Value} {ts : Addr → Value → Option Addr → TS} {b₀ : Stmt} {suite : List Stmt} {np pos' : Pos} {hds : List ExceptHandler} {l : List (Value × Option Nat × (Addr → Value → Option Addr → TS))} (hc : Names X x c)
      (hi : X.N[i]? = some n) (hln : X.env.kindOf n = some .local)
      (hsu : ∀ (a : Addr) (oe : Obj) (cls : Value) (d : Option Addr) (pn : List (Addr × Obj)), Zc cls d oe → (∃ vs, oe.data = .fields vs) → PSs (X.suite a ((a, oe) :: pn)) (b₀ :: suite) (ts a cls d)) (r : HdsG X hds l) :
      HdsG X (.ExceptHandler (some (.Name x np)) (some n) (b₀ :: suite) pos' :: hds) ((c, some i, ts) :: l)
/-- an error in hand: what is known once the body's error lies on the ground at s -/
structure Cgt (X : Cx) (pins : List (Addr × Obj)) (σ : St) (H : Hp) (a : Addr) (cls : Value) (d : Option Addr) (s : Shared) : Prop where
  free : H a = none
  off : a ≠ X.env.locals ∧ a ∉ X.fs
  fly : ∃ (B : Heap) (sI : Shared), Inv X pins σ H sI ∧ (∀ b o, sI.heap.get? b = some o → b ∉ frs X.stack → B.get? b = some o) ∧ sI.heap.UpToSlots s.heap ∧ s.os = sI.os ∧ AllBare s.gens ∧ HandSPX.FlyingZ B (X.env :: X.outer) a (Zc cls d) s.heap
namespace Cgt
variable {X : Cx} {pins : List (Addr × Obj)} {σ : St} {H : Hp} {a : Addr} {cls : Value} {d : Option Addr} {s : Shared}
theorem inv (c : Cgt X pins σ H a cls d s) : Inv X pins σ H s :=
  let ⟨_, _, J, nb, up, os, ag, fl⟩ := c.fly
  J.landed nb fl.1 up os ag
/-- the object, and the state as a suite's state -/
theorem su (c : Cgt X pins σ H a cls d s) : ∃ oe, s.heap.get? a = some oe ∧ Zc cls d oe ∧ (∃ vs, oe.data = .fields vs) ∧ Inv (X.suite a ((a, oe) :: (X.pn ++ pins))) [] σ H s :=
  let ⟨_, _, _, _, _, _, _, fl⟩ := c.fly
  let ⟨oe, vs, h1, h2, h3⟩ := fl.there
  ⟨oe, h1, h2, ⟨vs, h3⟩, c.inv.suite h1 h3 c.free c.off.1 c.off.2⟩
/-- how it comes into hand -/
theorem of (hs : X.stack = X.env :: X.outer) (hf : X.env.frame = some X.env.locals) {W : WX} {u : Value} {s' : Shared} {pn : List (Addr × Obj)} {xe : Value → Shared → Prop} (ok : X.Ok) (hpn : pn = X.pn ++ pins) (x : XE (X.tr pn xe) W u s')
    {Q : Shared → Prop} {E₁ : Value → Shared → Prop} (k : ∀ a cls d σ H h, u = .ref a → W cls d σ H → Cgt X pins σ H a cls d { s' with heap := h } → Q { s' with heap := h }) :
    wpAny (model X.prog X.w) X.A (noteFrame u X.env) (fun _ s₂ => wpAny (model X.prog X.w) X.A (setFlight u none) (fun _ s₃ => Q s₃) E₁ s₂) E₁ s' := by
  subst hpn
  obtain ⟨a, B, sI, p', σ', H', cls, d, rfl, J', nb, up, sky, na, os, ag, w⟩ := x
  have J : Inv X pins σ' H' sI := J'.ofTry ok
  refine Sky.land Zc.steady (by rw [ok.frames, hs]) hf (hs ▸ sky) fun h fl up' => k a cls d σ' H' h rfl w ⟨na, ?_, B, sI, J, nb, up.trans up', os, ag, fl⟩
  obtain ⟨oe, vs, e1, _, e3⟩ := fl.there
  have key : a ∉ frs (X.env :: X.outer) := fun hm => by
    obtain ⟨_, o, e, hnf⟩ := fl.2.2.1.mem hm
    exact hnf vs (by rw [show o = oe from Option.some.inj (e.symm.trans e1)]; exact e3)
  refine ⟨fun z => key ?_, fun z => key ?_⟩
  · simp only [frs, List.filterMap_cons, hf, z, List.mem_cons, true_or]
  · simp only [frs, List.filterMap_cons, hf, List.mem_cons]
    exact .inr z
/-- the name in a clause is looked at -/
theorem names (c : Cgt X pins σ H a cls d s) {x : Str} {v : Value} {np : Pos} (n : Names X x v) {Q : Value → Shared → Prop} {E : Value → Shared → Prop} (q : Q v s) : wpAny (model X.prog X.w) (X.A.mark (some (.ref a))) (eval (.Name x np) X.env) Q E s := by
  obtain ⟨oe, _, _, _, S⟩ := c.su
  rcases n with ⟨hg, hd, hm | ⟨hm, hv, hn⟩⟩
  · exact ld_glob (X := X.suite a ((a, oe) :: (X.pn ++ pins))) S hg hm q hd
  · exact ld_blt (X := X.suite a ((a, oe) :: (X.pn ++ pins))) S hg hm hv q hn hd
theorem asks (c : Cgt X pins σ H a cls d s) {v : Value} {b : Bool} (e : PySem.W.exmOne X.K cls v = some b) : PySem.W.Looks (model X.prog X.w) s.heap (excMatches (.ref a) v) b := by
  obtain ⟨oe, h1, h2, _⟩ := c.su
  exact PySem.W.exm_one c.inv.kIn (fun A Q E s' k q => wpAny_typeOf_ref (k _ _ h1) (by rw [h2.1]; exact q)) e
/-- no clause takes it -/
theorem on (c : Cgt X pins σ H a cls d s) (hs : X.stack = X.env :: X.outer) (hf : X.env.frame = some X.env.locals) {W : WX} (tk : Takes X W) (w : W cls d σ H) {D : Flow → Shared → Prop} : wpAny (model X.prog X.w) X.A (handleBy (.ref a) X.env []) D X.xe s := by
  obtain ⟨B, sI, J, nb, up, os, ag, fl⟩ := c.fly
  obtain ⟨_, _, _, oe, vs, t, _, _, he, _, hd, h1, _⟩ := id fl
  refine wpAny_handleBy_nil ?_
  unfold PySem.passOn
  refine wpAny_bind (wpAny_field he hd h1 ?_)
  have up' : wpAny (model X.prog X.w) X.A (setFlight (.ref a) X.env.frame) (fun _ s4 => wpAny (model X.prog X.w) X.A (throw (.ref a) : Sem Flow) D X.xe s4) X.xe s := by
    rw [hf]
    exact HandSPX.setFlight_upZ fl fun h hh u2 => wpAny_throw (tk _ _ ⟨a, B, sI, pins, σ, H, cls, d, rfl, J, nb, up.trans u2, .inr (.inr (hs ▸ hh)), c.free, os, ag, w⟩)
  have hne : ¬ (Value.ref t == Value.none) = true := by simp
  rw [if_neg hne]
  first
    | exact wpAny_bind (wpAny_pure (wpAny_bind up'))
    | exact wpAny_bind up'
/-- it is set down once more, ahead of a suite -/
theorem lands (c : Cgt X pins σ H a cls d s) {Q : Unit → Shared → Prop} {E : Value → Shared → Prop} (k : ∀ h, Cgt X pins σ H a cls d { s with heap := h } → Q () { s with heap := h }) {A : Around} :
    wpAny (model X.prog X.w) A (setFlight (.ref a) none) Q E s := by
  obtain ⟨B, sI, J, nb, up, os, ag, fl⟩ := c.fly
  exact HandSPX.lands_againZ fl fun h fl' u2 => k h ⟨c.free, c.off, B, sI, J, nb, up.trans u2, os, ag, fl'⟩
end Cgt
/-- the ends of a suite, told outside -/
theorem suiteEnds {X : Cx} {pins : List (Addr × Obj)} {a : Addr} {q : Addr × Obj} {D : Ends} {f : Flow} {s : Shared} (ok : X.Ok) (h : SP (X.suite a (q :: (X.pn ++ pins))) [] D f s) : SP X pins D f s := by
  cases f with
  | ret u =>
    obtain ⟨v, σ, H, S, r, k⟩ := h
    exact ⟨v, σ, H, S.unsuite ok, r, k⟩
  | _ =>
    obtain ⟨σ, H, S, k⟩ := h
    exact ⟨σ, H, S.unsuite ok, k⟩
section
variable {X : Cx} {body : List Stmt} {h₀ : ExceptHandler} {hds : List ExceptHandler} {l : List (Value × Option Nat × (Addr → Value → Option Addr → TS))} {pos : Pos} {tb : WX → TS} {Wout : WX}
theorem handled (hs : X.stack = X.env :: X.outer) (hf : X.env.frame = some X.env.locals) (hN : X.N.Nodup) (tk : Takes X Wout) {pins : List (Addr × Obj)} {σ : St} {H : Hp} {a : Addr} {cls : Value} {d : Option Addr} {s : Shared} {D : Ends} (c : Cgt X pins σ H a cls d s) (ok : X.Ok) :
    ∀ {hds : List ExceptHandler} {l : List (Value × Option Nat × (Addr → Value → Option Addr → TS))}, HdsG X hds l → wGen X.K Wout D l cls d σ H → wpAny (model X.prog X.w) X.A (handleBy (.ref a) X.env hds) (SP X pins D) X.xe s
  | _, _, .nil, w => c.on hs hf tk w
  | _, _, .cons n hsu r, ⟨b, e, y, z⟩ => by
    refine wpAny_handleBy_cons (codeAny_handlers_test (c.names n ((c.asks e).here ?_))) nofun
    cases b with
    | false => exact handled hs hf hN tk c ok r (z rfl)
    | true =>
      refine codeAny_handlers_suite (c.lands fun h c' => ?_)
      obtain ⟨oe, _, h2, h3, S⟩ := c'.su
      exact wpAny_mono ((hsu a oe cls d _ h2 h3).run [] _ _ H _ S (y rfl a c.free)) (fun _ _ q => suiteEnds ok q) fun _ _ q => q.elim
  | _, _, @HdsG.consN _ _ _ i _ _ _ _ _ _ _ _ n hi hln hsu r, ⟨b, e, y, z⟩ => by
    refine wpAny_handleBy_cons (codeAny_handlers_test (c.names n ((c.asks e).here ?_))) nofun
    cases b with
    | false => exact handled hs hf hN tk c ok r (z rfl)
    | true =>
      refine codeAny_handlers_suite_as (c.lands fun h c' => ?_)
      obtain ⟨oe, _, h2, h3, S⟩ := c'.su
      refine store_ok (X := X.suite a ((a, oe) :: (X.pn ++ pins))) (v := .ref a) S hN hi (.inl hln) rfl (fun s5 S5 => ?_) (.inr hln)
      refine wpAny_mono ((hsu a oe cls d _ h2 h3).run [] s5 _ H _ S5 (y rfl a c.free)) (fun f s6 q => ?_) fun _ _ q => q.elim
      cases f with
      | ret u =>
        obtain ⟨v, σ6, H6, S6, r6, k⟩ := q
        exact gone_ok (S6.unsuite ok) hN hi hln fun s7 J => ⟨v, _, H6, J, r6, k⟩
      | _ =>
        obtain ⟨σ6, H6, S6, k⟩ := q
        exact gone_ok (S6.unsuite ok) hN hi hln fun s7 J => ⟨_, H6, J, k⟩
theorem ps_try_gen (hs : X.stack = X.env :: X.outer) (hf : X.env.frame = some X.env.locals) (hN : X.N.Nodup) (tk : Takes X Wout)
    (hb : ∀ (W : WX) (pn : List (Addr × Obj)) (xe : Value → Shared → Prop), Takes (X.tr pn xe) W → PassesOwn (model X.prog X.w) X.A X.env xe → PSs (X.tr pn xe) body (tb W))
    (hh : HdsG X (h₀ :: hds) l) : PS X (.Try body (h₀ :: hds) [] [] pos) (fun D σ H => tb (wGen X.K Wout D l) D σ H) := by
  refine ⟨fun pins s σ H D I h => wpAny_Try_except (wpAny_mono ((hb (wGen X.K Wout D l) (X.pn ++ pins) _ (fun u s' x => ?_) PassesOwn.looking).run [] s σ H D (I.toTry _) h) (fun f s1 q => ?_) fun _ _ q => q)⟩
  · exact Cgt.of hs hf I.ok rfl x fun a cls d σ' H' h e w c => by
      subst e
      exact handled hs hf hN tk c I.ok hh w
  · cases f with
    | next =>
      obtain ⟨σ', H', J, k⟩ := q
      exact wpAny_execs_nil ⟨σ', H', J.ofTry I.ok, k⟩
    | ret u =>
      obtain ⟨v, σ', H', J, r, k⟩ := q
      exact ⟨v, σ', H', J.ofTry I.ok, r, k⟩
    | _ =>
      obtain ⟨σ', H', J, k⟩ := q
      exact ⟨σ', H', J.ofTry I.ok, k⟩
end
end L2
namespace VM
open PySem L2 VE
noncomputable section

/-! ### raise -/
/-- what the text says of an error class: x its name, at Ca, nm what its instances' name is -/
structure ErrOk (P : Program) (w : World) (K : PySem.W.Frag) (mg : Str → Option Value) (base : Heap) (k : Nat) (x : Str) (Ca : Addr) (nm : Str) : Prop where
  own : OwnC K Ca
  gm : mg x = some (.ref Ca)
  made : ∃ (fI : Addr) (fd : FuncData) (sp : Sp) (fs : V → List (Str × V)), PySem.W.findIn K (.ref Ca) "__init__" = some (some (.ref fI)) ∧ PySem.W.typeIn K (.ref fI) = some (.type "function") ∧ FnOk P w K mg base CX0 k fI fd supPs sp ∧ Binds K fd supPs [] ∧
    (∀ p, (fs p).lookup ("place" : Str) = some p ∧ (fs p).lookup ("name" : Str) = some (.str nm)) ∧
    ∀ e p H Q E, H e = some (exo e Ca none) → (∀ dx H', ExEnd H H' e Ca dx (fs p) → Q .non H') → sp [.ref e, p] H Q E
/-- what is asked of the class, whose name is told back -/
structure XfOk (K : PySem.W.Frag) (C : Addr) : Prop where
  xf : XfC K C
  np : PySem.W.findIn K (.ref C) "place" = some none
  nn : PySem.W.findIn K (.ref C) "name" = some none
section
variable {X : Cx} {C : Cn} {e : Expr} {f : M D} {pos p : Pos}
def fRaise (c : Nat) (f : M D) : MS := bndS f fun x ρ s => some (.ex ⟨c, x⟩ ρ s)
theorem ds_raise {x : Str} (c : Nat) {k : Nat} (hc : X.calm = true) (tk : Takes X C.W) (Er : ErrOk X.prog X.w X.K X.mg X.base k x (C.T.ad c) (C.T.nm c)) (hr : Room (k + 1) X.A) (ha : DE X C e f) (hg : Gl X x := by rfl) (hdb : (x == ("__debug__" : Str)) = false := by decide)
    (he : starEach (e :: []) X.env = (false, eval e X.env) :: starEach [] X.env := by rfl) (hpl : (backTo p (starEach [] X.env)).any (·.1) = false := by rfl) {p2 : Pos} : DS X C (.Raise (some (.Call (.Name x p2) [e] [] p)) none pos) (fRaise c f) :=
  let ⟨te, pa, ea⟩ := ha.ex
  let ⟨fI, fd, sp, fs, iC, tI, F1, hb, hfs, hsp⟩ := Er.made
  ⟨_, ps_raise hc tk (pmk_oex (ds := []) (dvs := []) Er.own.ox iC tI F1 hr hb .nil (fun _ _ _ _ _ _ _ z => z.elim) hg Er.gm (pa_cons pa pa_nil he) hdb he hpl), fun ws H s σ ρ o E S N h q => by
    refine (ea.st) S N h q fun x s1 h v ws1 H1 t1 S1 r1 => ?_
    cases h
    refine ⟨by show 1 ≤ 1000; decide, fun a na => hsp a v _ _ _ upd_same fun dx H' z => ?_⟩
    have hdx : H1 dx = none := by
      have := z.nd
      rwa [upd_ne z.ne] at this
    have hH : upd (del H' a) dx (.xd (fs v)) = upd H1 dx (.xd (fs v)) := by
      funext b
      by_cases hb : b = dx
      · rw [hb, upd_same, upd_same]
      · rw [upd_ne hb, upd_ne hb]
        by_cases hba : b = a
        · rw [hba, del_same, na]
        · rw [del_ne hba, z.rest b hba hb, upd_ne hba]
    refine ⟨rfl, dx, fs v, z.ex, z.dc, hdx, ?_⟩
    rw [hH]
    have t2 : Stp ws1 H1 ws1 (upd H1 dx (.xd (fs v))) := S1.stp_new hdx
    exact q σ _ _ ws1 _ (t1.trans t2) (S1.new hdx) ((N.stp t1).stp t2) ⟨rfl, dx, fs v, v, rfl, S1.at_new hdx, (hfs v).1, r1.stp t2, (hfs v).2⟩⟩

/-! ### try -/
/-- the clauses, from the first -/
abbrev Hd := Exn → MS
def hEnd : Hd := fun e ρ s => some (.ex e ρ s)
def hNo (tab : List (Nat × Bool)) (g : Exn → MS) (r : Hd) : Hd := fun e ρ s => match tab.lookup e.c with
  | some true => match g e ρ s with
    | some (.ex _ _ _) => none
    | o => o
  | some false => r e ρ s
  | none => none
def hAs (i : Nat) (tab : List (Nat × Bool)) (g : Exn → MS) (r : Hd) : Hd := fun e ρ s => match tab.lookup e.c with
  | some true => if i < ρ.length then match g e (ρ.set i none) s with
    | some (.nx ρ1 s1) => some (.nx (ρ1.set i none) s1)
    | some (.bk ρ1 s1) => some (.bk (ρ1.set i none) s1)
    | some (.ct ρ1 s1) => some (.ct (ρ1.set i none) s1)
    | some (.rt d s1) => some (.rt d s1)
    | _ => none
    else none
  | some false => r e ρ s
  | none => none
def fTry (fb : MS) (h : Hd) : MS := fun ρ s => match fb ρ s with
  | some (.ex e ρ1 s1) => h e ρ1 s1
  | o => o
/-- clauses and what they do -/
structure DH (X : Cx) (T : Kt) (W : WX) (hds : List ExceptHandler) (h : Hd) : Prop where
  ex : ∃ l, HdsG X hds l ∧ ∀ ws H s σ ρ o E e cls dx, Sta T ws H s → EnvOk T none ws H σ ρ → ExRep T ws H e cls dx → h e ρ s = some o → EndsOk ⟨T, W, none⟩ ws H E o → wGen X.K W E l cls dx σ H
variable {T : Kt} {W : WX} {hds : List ExceptHandler} {h : Hd} {tab : List (Nat × Bool)} {g : Exn → MS} {x n : Str} {cl : Value} {b₀ : Stmt} {suite body : List Stmt} {np pos' : Pos} {h₀ : ExceptHandler}
theorem dh_end : DH X T W [] hEnd := ⟨[], .nil, fun ws H s σ ρ o E e cls dx S N xr h q => by
  cases h
  exact q σ cls dx ws H (Stp.refl _ _) S N xr⟩
/-- the context within a suite -/
abbrev Csu (T : Kt) (i : Nat) (a : Addr) (d : Option Addr) (e : Exn) : Cn := ⟨T, W0, some ⟨i, a, d, e⟩⟩
theorem EnvOk.drop {x : Option Sx} {ws : Ws} {H : Hp} {σ : L2.St} {ρ : Rho} (N : EnvOk T x ws H σ ρ) : EnvOk T none ws H σ ρ := ⟨N.len, N.at_, fun _ z => nomatch z⟩
theorem dh_no (hc : Names X x cl) (hex : ∀ q ∈ tab, PySem.W.exmOne X.K (.ref (T.ad q.1)) cl = some q.2)
    (hs : ∀ (a : Addr) (oe : Obj) (cls : Value) (d : Option Addr) (pn : List (Addr × Obj)) (e : Exn), Zc cls d oe → (∃ vs, oe.data = .fields vs) → cls = .ref (T.ad e.c) → (e.c, true) ∈ tab → DSs (X.suite a ((a, oe) :: pn)) ⟨T, W0, none⟩ (b₀ :: suite) (g e))
    (r : DH X T W hds h) : DH X T W (.ExceptHandler (some (.Name x np)) none (b₀ :: suite) pos' :: hds) (hNo tab g h) :=
  let ⟨l, hl, hp⟩ := r.ex
  ⟨(cl, none, fun a cls d D σ H => ∃ (e : Exn) (hc : cls = .ref (T.ad e.c)) (ht : (e.c, true) ∈ tab), ∀ (oe : Obj) (pn : List (Addr × Obj)) (hz : Zc cls d oe) (hv : ∃ vs, oe.data = .fields vs), Classical.choose (hs a oe cls d pn e hz hv hc ht).ex D σ H) :: l,
    .cons hc (fun a oe cls d pn hz hv => ⟨fun pins s σ H D I ⟨e, hc, ht, hh⟩ => (Classical.choose_spec (hs a oe cls d pn e hz hv hc ht).ex).1.run pins s σ H D I (hh oe pn hz hv)⟩) hl,
    fun ws H s σ ρ o E e cls dx S N xr h q => by
      unfold hNo at h
      have ec : cls = .ref (T.ad e.c) := xr.1
      split at h
      · rename_i ht
        have hm := lookup_mem ht
        refine ⟨true, by rw [ec]; exact hex _ hm, fun _ a na => ⟨e, ec, hm, fun oe pn hz hv => ?_⟩, fun z => nomatch z⟩
        split at h
        · cases h
        · rename_i o' hne
          refine (Classical.choose_spec (hs a oe cls dx pn e hz hv ec hm).ex).2 ws H s σ ρ o E S N h ?_
          cases o with
          | ex e2 ρ2 s2 => exact absurd h (hne _ _ _)
          | nx _ _ => exact q
          | rt _ _ => exact q
          | bk _ _ => exact q
          | ct _ _ => exact q
      · rename_i ht
        exact ⟨false, by rw [ec]; exact hex _ (lookup_mem ht), (fun z => nomatch z), fun _ => hp ws H s σ ρ o E e cls dx S N xr h q⟩
      · cases h⟩
theorem dh_as (i : Nat) (hc : Names X x cl) (hex : ∀ q ∈ tab, PySem.W.exmOne X.K (.ref (T.ad q.1)) cl = some q.2)
    (hs : ∀ (a : Addr) (oe : Obj) (cls : Value) (d : Option Addr) (pn : List (Addr × Obj)) (e : Exn), Zc cls d oe → (∃ vs, oe.data = .fields vs) → cls = .ref (T.ad e.c) → (e.c, true) ∈ tab → DSs (X.suite a ((a, oe) :: pn)) (Csu T i a d e) (b₀ :: suite) (g e))
    (r : DH X T W hds h) (hi : X.N[i]? = some n := by rfl) (hln : X.env.kindOf n = some .local := by rfl) : DH X T W (.ExceptHandler (some (.Name x np)) (some n) (b₀ :: suite) pos' :: hds) (hAs i tab g h) :=
  let ⟨l, hl, hp⟩ := r.ex
  ⟨(cl, some i, fun a cls d D σ H => ∃ (e : Exn) (hc : cls = .ref (T.ad e.c)) (ht : (e.c, true) ∈ tab), ∀ (oe : Obj) (pn : List (Addr × Obj)) (hz : Zc cls d oe) (hv : ∃ vs, oe.data = .fields vs), Classical.choose (hs a oe cls d pn e hz hv hc ht).ex D σ H) :: l,
    .consN hc hi hln (fun a oe cls d pn hz hv => ⟨fun pins s σ H D I ⟨e, hc, ht, hh⟩ => (Classical.choose_spec (hs a oe cls d pn e hz hv hc ht).ex).1.run pins s σ H D I (hh oe pn hz hv)⟩) hl,
    fun ws H s σ ρ o E e cls dx S N xr h q => by
      unfold hAs at h
      have ec : cls = .ref (T.ad e.c) := xr.1
      split at h
      · rename_i ht
        have hm := lookup_mem ht
        refine ⟨true, by rw [ec]; exact hex _ hm, fun _ a na => ⟨e, ec, hm, fun oe pn hz hv => ?_⟩, fun z => nomatch z⟩
        split at h
        · rename_i hlt
          rw [← N.len] at hlt
          have N2 : EnvOk T (some ⟨i, a, dx, e⟩) ws H (σ.set i (some (.ref a))) (ρ.set i none) := by
            have Nc := N.clr (i := i) True.intro
            refine ⟨by simpa using Nc.len, fun j d hj => ?_, fun q' hq' => ?_⟩
            · obtain ⟨v, h1, h2⟩ := Nc.at_ j d hj
              refine ⟨v, ?_, h2⟩
              by_cases hji : i = j
              · subst hji
                rw [List.getElem?_set_self hlt] at h1
                cases h1
              · rw [List.getElem?_set_ne hji] at h1 ⊢
                exact h1
            · cases hq'
              exact ⟨by rw [List.getElem?_set_self hlt], cls, xr⟩
          have sp := (Classical.choose_spec (hs a oe cls dx pn e hz hv ec hm).ex).2 ws H s (σ.set i (some (.ref a))) (ρ.set i none)
          split at h
          · rename_i ρ1 s1 h1
            cases h
            exact sp _ _ S N2 h1 fun σ2 ws2 H2 t2 S2 N3 => q _ ws2 H2 t2 S2 (N3.drop.clr True.intro)
          · rename_i ρ1 s1 h1
            cases h
            exact sp _ _ S N2 h1 fun σ2 ws2 H2 t2 S2 N3 => q _ ws2 H2 t2 S2 (N3.drop.clr True.intro)
          · rename_i ρ1 s1 h1
            cases h
            exact sp _ _ S N2 h1 fun σ2 ws2 H2 t2 S2 N3 => q _ ws2 H2 t2 S2 (N3.drop.clr True.intro)
          · rename_i d s1 h1
            cases h
            exact sp _ _ S N2 h1 q
          · cases h
        · cases h
      · rename_i ht
        exact ⟨false, by rw [ec]; exact hex _ (lookup_mem ht), (fun z => nomatch z), fun _ => hp ws H s σ ρ o E e cls dx S N xr h q⟩
      · cases h⟩
theorem ds_try {fb : MS} (hs : X.stack = X.env :: X.outer) (hf : X.env.frame = some X.env.locals) (hN : X.N.Nodup) (tk : Takes X W)
    (hb : ∀ (W : WX) (pn : List (Addr × Obj)) (xe : Value → Shared → Prop), Takes (X.tr pn xe) W → PassesOwn (model X.prog X.w) X.A X.env xe → DSs (X.tr pn xe) ⟨T, W, none⟩ body fb)
    (hh : DH X T W (h₀ :: hds) h) : DS X ⟨T, W, none⟩ (.Try body (h₀ :: hds) [] [] pos) (fTry fb h) :=
  let ⟨l, hl, hp⟩ := hh.ex
  ⟨_, ps_try_gen (tb := fun W D σ H => ∀ (pn : List (Addr × Obj)) (xe : Value → Shared → Prop) (tk : Takes (X.tr pn xe) W) (po : PassesOwn (model X.prog X.w) X.A X.env xe), Classical.choose (hb W pn xe tk po).ex D σ H) hs hf hN tk
    (fun W pn xe tk po => ⟨fun pins s σ H D I hw => (Classical.choose_spec (hb W pn xe tk po).ex).1.run pins s σ H D I (hw pn xe tk po)⟩) hl, fun ws H s σ ρ o E S N h q pn xe tk' po => by
      have sp := (Classical.choose_spec (hb _ pn xe tk' po).ex).2 ws H s σ ρ
      unfold fTry at h
      split at h
      · rename_i e ρ1 s1 h1
        refine sp _ E S N h1 fun σ1 cls dx ws1 H1 t1 S1 N1 x1 => ?_
        exact hp ws1 H1 s1 σ1 ρ1 o E e cls dx S1 N1 x1 h (q.stp t1)
      · rename_i r hne
        refine sp o E S N h ?_
        cases o with
        | ex e2 ρ2 s2 => exact absurd h (hne _ _ _)
        | nx _ _ => exact q
        | rt _ _ => exact q
        | bk _ _ => exact q
        | ct _ _ => exact q⟩
/-- e.place, e the error that the suite holds -/
theorem de_xp {a : Addr} {oe : Obj} {cls : Value} {d : Option Addr} {pn : List (Addr × Obj)} {ex : Exn} {i : Nat} {W : WX} (hz : Zc cls d oe) (hv : ∃ vs, oe.data = .fields vs) (hc : cls = .ref (T.ad ex.c)) (O : XfOk X.K (T.ad ex.c))
    (hN : (X.suite a ((a, oe) :: pn)).N[i]? = some n := by rfl) (hvis : Vis (X.suite a ((a, oe) :: pn)).env.scope n := by first | exact Or.inl rfl | exact Or.inr (Or.inl rfl) | exact Or.inr (Or.inr rfl))
    (hd : (n == ("__debug__" : Str)) = false := by decide) (hcd : (n == ("__classdict__" : Str)) = false := by decide)
    (hb : attributeBase (.Name n p) "place" X.env (eval (.Name n p) X.env) = eval (.Name n p) X.env := by rfl) :
    DE (X.suite a ((a, oe) :: pn)) ⟨T, W, some ⟨i, a, d, ex⟩⟩ (.Attribute (.Name n p) "place" pos) (fC ex.p) :=
  ⟨_, pe_xf O.xf O.np hz hv (pe_var hN hvis hd hcd) hb, fun ws H s σ ρ R Q S N h xx q => by
    cases h
    obtain ⟨e1, cl, ec, dd, fs, v, ed, em, el, rv, _⟩ := N.ex _ rfl
    exact ⟨.ref a, e1, rfl, hc, dd, fs, v, ed, (mask_some em).2, el, q _ _ rfl v ws H (Stp.refl _ _) S rv⟩⟩
theorem de_xn {a : Addr} {oe : Obj} {cls : Value} {d : Option Addr} {pn : List (Addr × Obj)} {ex : Exn} {i : Nat} {W : WX} (hz : Zc cls d oe) (hv : ∃ vs, oe.data = .fields vs) (hc : cls = .ref (T.ad ex.c)) (O : XfOk X.K (T.ad ex.c))
    (hN : (X.suite a ((a, oe) :: pn)).N[i]? = some n := by rfl) (hvis : Vis (X.suite a ((a, oe) :: pn)).env.scope n := by first | exact Or.inl rfl | exact Or.inr (Or.inl rfl) | exact Or.inr (Or.inr rfl))
    (hd : (n == ("__debug__" : Str)) = false := by decide) (hcd : (n == ("__classdict__" : Str)) = false := by decide)
    (hb : attributeBase (.Name n p) "name" X.env (eval (.Name n p) X.env) = eval (.Name n p) X.env := by rfl) :
    DE (X.suite a ((a, oe) :: pn)) ⟨T, W, some ⟨i, a, d, ex⟩⟩ (.Attribute (.Name n p) "name" pos) (fC (.str (T.nm ex.c))) :=
  ⟨_, pe_xf O.xf O.nn hz hv (pe_var hN hvis hd hcd) hb, fun ws H s σ ρ R Q S N h xx q => by
    cases h
    obtain ⟨e1, cl, ec, dd, fs, v, ed, em, _, _, en⟩ := N.ex _ rfl
    exact ⟨.ref a, e1, rfl, hc, dd, fs, _, ed, (mask_some em).2, en, q _ _ rfl _ ws H (Stp.refl _ _) S rfl⟩⟩
end
end
end VM
set_option Elab.async false
set_option maxRecDepth 100000
set_option maxHeartbeats 4000000
set_option linter.all false
set_option autoImplicit false
/-! Instances. -/
namespace L2
open PySem PySem.Spec PyProof.Rows
section
variable {X : Cx} {CX : CXT} {k : Nat} {f C : Addr} {fd : FuncData} {ps : List Str} {sp : Sp} {E : St → XK} {x m : Str} {p pos apos : Pos} {e o : Expr} {es : List Expr} {ta : TE} {t : TA}
def vm_tMeth (C : Addr) (m : Str) (sp : Sp) (E : St → XK) (ta : TE) (t : TA) : TE := fun σ H Q => ta σ H fun x H1 => ∃ a dx fs, x = .ref a ∧ H1 a = some (.ins C dx fs) ∧ fs.lookup m = none ∧ t σ H1 fun vs H2 => sp (x :: vs) H2 Q (E σ)
theorem vm_pe_meth {pl : Sem Bool} (he : PE X o ta) (c : Cls X.K C) (hm : Meth X.K C m f) (F : FnOk X.prog X.w X.K X.mg X.base CX k f fd ps sp) (hr : Room k X.A) (hb : Binds X.K fd ps []) (hx : ∀ σ, PassesAt CX X σ (E σ)) (ha : PA X (e :: es) t)
    (hst : starEach (e :: es) X.env = (false, eval e X.env) :: starEach es X.env := by rfl) (hpl : (backTo pos (starEach es X.env)).any (·.1) = false := by rfl)
    (ht : eval (.Call (.Attribute o m apos) (e :: es) [] pos) X.env = (do
      let ov ← eval o X.env
      standAt apos.atName
      let (f, first) ← holding [ov] (getMethod ov m pl)
      callWith pos f first (backTo pos (starEach (e :: es) X.env)) (backToKw pos (keywordEach [] X.env))) := by rfl) :
    PE X (.Call (.Attribute o m apos) (e :: es) [] pos) (vm_tMeth C m sp E ta t) := by
  refine ⟨fun pins s σ H Q I h => ?_⟩
  refine PySem.W.methodCall_KW (pl := pl) (thn (he.run pins s σ H _ I h) fun u s1 ⟨x, H1, I1, rx, a, dx, fs, ex, ea, l, q⟩ => ?_) ht
  subst ex
  obtain rfl : u = Value.ref a := rx
  refine getmeth_ok I1 ea c hm l ?_
  refine PySem.W.callWith_K (first := [.ref a]) (h₀ := X.base) I.ok.mod.kin hm.kp (thn (ha.run pos pins s1 σ H1 _ I1 q) fun us s2 ⟨vs, H2, I2, r, q2⟩ => ⟨I2.kIn, ?_⟩) hst hpl
  exact run_fnS (us := .ref a :: us) (vs := .ref a :: vs) F hr hb (hx σ) I2 (.cons rfl r) q2
theorem vm_pe_meth0 {pl : Sem Bool} (he : PE X o ta) (c : Cls X.K C) (hm : Meth X.K C m f) (F : FnOk X.prog X.w X.K X.mg X.base CX k f fd ps sp) (hr : Room k X.A) (hb : Binds X.K fd ps []) (hx : ∀ σ, PassesAt CX X σ (E σ))
    (ht : eval (.Call (.Attribute o m apos) [] [] pos) X.env = (do
      let ov ← eval o X.env
      standAt apos.atName
      let (f, first) ← holding [ov] (getMethod ov m pl)
      callWith pos f first (backTo pos (starEach [] X.env)) (backToKw pos (keywordEach [] X.env))) := by rfl) :
    PE X (.Call (.Attribute o m apos) [] [] pos) (vm_tMeth C m sp E ta tNil) := by
  refine ⟨fun pins s σ H Q I h => ?_⟩
  refine PySem.W.methodCall_KW (pl := pl) (thn (he.run pins s σ H _ I h) fun u s1 ⟨x, H1, I1, rx, a, dx, fs, ex, ea, l, q⟩ => ?_) ht
  subst ex
  obtain rfl : u = Value.ref a := rx
  refine getmeth_ok I1 ea c hm l ?_
  exact PySem.W.callWith_K0 (first := [.ref a]) I1.kIn hm.kp (run_fnS (us := [.ref a]) (vs := [.ref a]) F hr hb (hx σ) I1 (.cons rfl .nil) q)
theorem vm_pe_call0 (F : FnOk X.prog X.w X.K X.mg X.base CX k f fd ps sp) (hr : Room k X.A) (hg : Gl X x) (hm : X.mg x = some (.ref f)) (hk : PySem.W.keepIn X.K (.ref f) = true) (hb : Binds X.K fd ps []) (hx : ∀ σ, PassesAt CX X σ (E σ))
    (hdb : (x == ("__debug__" : Str)) = false := by decide) : PE X (.Call (.Name x p) [] [] pos) (tCallS sp E tNil) := by
  refine ⟨fun pins s σ H Q I h => ?_⟩
  refine wpAny_Call_Name_kw (ld_glob I hg hm ?_ hdb)
  exact PySem.W.callWith_K0 I.kIn hk (run_fnS (us := []) F hr hb (hx σ) I .nil h)
theorem vm_run_make {pins : List (Addr × Obj)} {σ : St} {H : Hp} {s : Shared} {Q : VK} {us : List Value} {vs : List V} {E : XK} (M : Mk X.K C f) (F : FnOk X.prog X.w X.K X.mg X.base CX k f fd ps sp) (hr : Room (k + 1) X.A) (hb : Binds X.K fd ps [])
    (hx : PassesAt CX X σ E) (I : Inv X pins σ H s) (r : Vals vs us)
    (h : ∀ x dx, H x = none → H dx = none → dx ≠ x → sp (.ref x :: vs) (upd (upd H dx (.own x)) x (.ins C dx [])) (fun v H2 => v = .non ∧ Q (.ref x) H2) E) :
    wpAny (model X.prog X.w) X.A (call (.ref C) us) (EP X pins σ Q) X.xe s := by
  have hq := h (s.heap.objs.size + 1) s.heap.objs.size (I.hok.fresh (Nat.le_succ _)) (I.hok.fresh (Nat.le_refl _)) (Nat.ne_of_lt (Nat.lt_succ_self _))
  have I2 := Inv.made (C := C) I
  have r2 : Vals (V.ref (s.heap.objs.size + 1) :: vs) (Value.ref (s.heap.objs.size + 1) :: us) := .cons rfl r
  have hl : (Value.ref (s.heap.objs.size + 1) :: us ++ []).length = ps.length := by
    have e := r2.length
    rw [F.len _ _ _ _ hq] at e
    rw [List.append_nil]
    exact e.symm
  have bb := hb _ (Value.ref (s.heap.objs.size + 1) :: us) I2.kIn hl
  rw [List.append_nil] at bb
  refine wpAny_call (make_map (f := f) I.kIn M.makes M.init (beq_iff_eq.mp M.fn) (codeAny_mono (F.run _ X.stack _ _ ⟨Value.ref (s.heap.objs.size + 1) :: us, []⟩ (Value.ref (s.heap.objs.size + 1) :: us) _ _ E (hr.make C us [])
    (I2.env0.make C us []) bb r2 hq) fun r s' hq' => ?_))
  cases r with
  | error e => exact hx pins _ _ e s' I2 hq'
  | ok fl =>
    cases fl with
    | ret u =>
      obtain ⟨v, H', I3, rv, ev, q3⟩ := I2.after hq'
      subst ev
      exact ⟨rv, ⟨V.ref (s.heap.objs.size + 1), H', I3, rfl, q3⟩⟩
    | next => exact False.elim hq'
    | brk => exact False.elim hq'
    | cont => exact False.elim hq'
def vm_tMake (C : Addr) (sp : Sp) (E : St → XK) (t : TA) : TE := fun σ H Q => t σ H fun vs H1 => ∀ x dx, H1 x = none → H1 dx = none → dx ≠ x → sp (.ref x :: vs) (upd (upd H1 dx (.own x)) x (.ins C dx [])) (fun v H2 => v = .non ∧ Q (.ref x) H2) (E σ)
theorem vm_pe_make (M : Mk X.K C f) (F : FnOk X.prog X.w X.K X.mg X.base CX k f fd ps sp) (hr : Room (k + 1) X.A) (hg : Gl X x) (hm : X.mg x = some (.ref C)) (hb : Binds X.K fd ps []) (hx : ∀ σ, PassesAt CX X σ (E σ))
    (ha : PA X (e :: es) t) (hdb : (x == ("__debug__" : Str)) = false := by decide) (he : starEach (e :: es) X.env = (false, eval e X.env) :: starEach es X.env := by rfl) (hpl : (backTo pos (starEach es X.env)).any (·.1) = false := by rfl) :
    PE X (.Call (.Name x p) (e :: es) [] pos) (vm_tMake C sp E t) := by
  refine ⟨fun pins s σ H Q I h => ?_⟩
  refine wpAny_Call_Name_kw (ld_glob I hg hm ?_ hdb)
  refine PySem.W.callWith_K (h₀ := X.base) I.ok.mod.kin M.kp (thn (ha.run pos pins s σ H _ I h) fun us s1 ⟨vs, H1, I1, r, q⟩ => ⟨I1.kIn, ?_⟩) he hpl
  exact vm_run_make M F hr hb (hx σ) I1 r q
end
end L2
namespace VM
open PySem L2
noncomputable section

/-! ### fields -/
def getN (n : Nat) : List Nat → List D → Option D
  | m :: ms, d :: ds => if m = n then some d else getN n ms ds
  | _, _ => none
def putN (n : Nat) (v : D) : List Nat → List D → List Nat × List D
  | m :: ms, d :: ds => if m = n then (m :: ms, v :: ds) else ((m :: (putN n v ms ds).1), (d :: (putN n v ms ds).2))
  | _, _ => ([n], [v])
/-- class, fields, values of an instance -/
def insD (s : Sto) : D → Option (Nat × List Nat × List D)
  | .ins c ns vs => some (c, ns, vs)
  | .own l => match s[l]? with
    | some (.ins c ns vs) => some (c, ns, vs)
    | _ => none
  | _ => none
theorem ins_ok {T : Kt} {ws : Ws} {H : Hp} {s : Sto} {d : D} {v : V} {c : Nat} {ns : List Nat} {ds : List D} (S : Sta T ws H s) (r : Rep T ws (mask ws H) d v) (h : insD s d = some (c, ns, ds)) :
    ∃ a dx fs, v = .ref a ∧ H a = some (.ins (T.ad c) dx fs) ∧ InsOk T c ns ∧ fs.map (·.1) = ns.map T.f ∧ Reps T ws (mask ws H) ds (fs.map (·.2)) := by
  cases d with
  | ins c' ns' vs' =>
    cases h
    obtain ⟨a, dx, fs, hv, h1, h2, h3, h4⟩ := r
    exact ⟨a, dx, fs, hv, (mask_some h1).2, h2, h3, h4⟩
  | own l =>
    obtain ⟨a, h1, rfl⟩ := r
    unfold insD at h
    dsimp only at h
    cases hl : s[l]? with
    | none => rw [hl] at h; cases h
    | some so =>
      rw [hl] at h
      obtain ⟨o, h3, h4⟩ := S.own l a _ h1 hl
      cases so with
      | ins c' ns' vs' =>
        cases h
        cases o <;> first
          | exact h4.elim
          | (obtain ⟨e, k1, k2, k3⟩ := h4; subst e; exact ⟨a, _, _, rfl, h3, k1, k2, k3⟩)
      | lst ds => cases h
      | dct t ks vs => cases h
      | set t ds => cases h
  | _ => cases h
theorem f_inj {T : Kt} {m n : Nat} (hm : m < T.fld.length) (hn : n < T.fld.length) (h : T.f m = T.f n) : m = n := by
  unfold Kt.f at h
  rw [List.getD_eq_getElem?_getD, List.getD_eq_getElem?_getD, List.getElem?_eq_getElem hm, List.getElem?_eq_getElem hn] at h
  exact (List.getElem_inj T.ok).mp h
theorem getN_ok {T : Kt} {ws : Ws} {M : Hp} {n : Nat} (hn : n < T.fld.length) : ∀ {ns : List Nat} {ds : List D} {fs : List (Str × V)} {d : D}, (∀ m ∈ ns, m < T.fld.length) → fs.map (·.1) = ns.map T.f → Reps T ws M ds (fs.map (·.2)) → getN n ns ds = some d → n ∈ ns ∧ ∃ v, fs.lookup (T.f n) = some v ∧ Rep T ws M d v
  | [], ds, fs, d, _, _, _, h => by cases ds <;> cases h
  | m :: ms, [], fs, d, _, _, _, h => by cases h
  | m :: ms, e :: ds, fs, d, hb, h1, h2, h => by
    cases fs with
    | nil => cases h1
    | cons p fs =>
      obtain ⟨g, w⟩ := p
      simp only [List.map_cons, List.cons.injEq] at h1
      obtain ⟨v, r, hv, k1, k2⟩ := h2
      simp only [List.map_cons, List.cons.injEq] at hv
      obtain ⟨rfl, hr⟩ := hv
      unfold getN at h
      split at h
      · rename_i e1
        cases h
        subst e1
        exact ⟨List.mem_cons_self, w, by rw [h1.1]; simp [List.lookup], k1⟩
      · rename_i e1
        obtain ⟨i1, v, i2, i3⟩ := getN_ok hn (fun q hq => hb q (List.mem_cons_of_mem _ hq)) h1.2 (by rw [hr]; exact k2) h
        refine ⟨List.mem_cons_of_mem _ i1, v, ?_, i3⟩
        have : (T.f n == g) = false := by
          rw [h1.1]
          exact beq_eq_false_iff_ne.mpr fun z => e1 (f_inj hn (hb m List.mem_cons_self) z).symm
        simp [List.lookup, this, i2]
section
variable {X : Cx} {C : Cn} {e o : Expr} {es : List Expr} {f fo fv : M D} {fa : M (List D)} {pos p apos p' : Pos}
def fFld (n : Nat) (f : M D) : M D := bnd f fun x => got fun s => (insD s x).bind fun q => getN n q.2.1 q.2.2
theorem de_fld {a : Str} (n : Nat) (hn : n < C.T.fld.length) (ha : DE X C e f) (hf : C.T.f n = a := by rfl) (hb : attributeBase e a X.env (eval e X.env) = eval e X.env := by rfl) (hK : X.K = C.T.K := by rfl) : DE X C (.Attribute e a pos) (fFld n f) :=
  let ⟨_, pa, ea⟩ := ha.ex
  ⟨_, pe_fld pa hb, fun ws H s σ ρ R Q S N h xx q => (ea.b) S N h xx fun x s1 h v ws1 H1 t1 S1 r1 => by
    obtain ⟨z, h2, rfl⟩ := got_some h
    obtain ⟨⟨c, ns, ds⟩, h3, h4⟩ := Option.bind_eq_some_iff.mp h2
    obtain ⟨a', dx, fs, rfl, k1, k2, k3, k4⟩ := ins_ok S1 r1 h3
    obtain ⟨i1, w, i2, i3⟩ := getN_ok hn (fun m hm => (k2.2 m hm).1) k3 k4 h4
    subst hf
    rw [hK]
    exact ⟨a', _, dx, fs, w, rfl, k1, k2.1.cl, (k2.2 n i1).2, i2, q _ _ rfl w ws1 H1 t1 S1 i3⟩⟩
theorem putN_ok {T : Kt} {ws : Ws} {M : Hp} {n : Nat} {d : D} {v : V} (hn : n < T.fld.length) (r : Rep T ws M d v) : ∀ {ns : List Nat} {ds : List D} {fs : List (Str × V)}, (∀ m ∈ ns, m < T.fld.length) → fs.map (·.1) = ns.map T.f → Reps T ws M ds (fs.map (·.2)) →
    (putF (T.f n) v fs).map (·.1) = (putN n d ns ds).1.map T.f ∧ Reps T ws M (putN n d ns ds).2 ((putF (T.f n) v fs).map (·.2)) ∧ ∀ m ∈ (putN n d ns ds).1, m = n ∨ m ∈ ns
  | [], ds, fs, _, h1, h2 => by
    have : fs = [] := List.map_eq_nil_iff.mp h1
    subst this
    have e : putN n d [] ds = ([n], [d]) := by cases ds <;> rfl
    rw [e]
    exact ⟨rfl, ⟨v, [], rfl, r, rfl⟩, fun m hm => .inl (by simpa using hm)⟩
  | m :: ms, [], fs, _, h1, h2 => by
    cases fs with
    | nil => cases h1
    | cons p fs => cases h2
  | m :: ms, e :: ds, fs, hb, h1, h2 => by
    cases fs with
    | nil => cases h1
    | cons p fs =>
      obtain ⟨g, w⟩ := p
      simp only [List.map_cons, List.cons.injEq] at h1
      obtain ⟨v', r', hv, k1, k2⟩ := h2
      simp only [List.map_cons, List.cons.injEq] at hv
      obtain ⟨rfl, hr⟩ := hv
      unfold putN putF
      by_cases e1 : m = n
      · subst e1
        rw [if_pos rfl, if_pos h1.1]
        refine ⟨?_, ⟨v, r', ?_, r, k2⟩, fun q hq => .inr hq⟩
        · simp [h1.1, h1.2]
        · simp [hr]
      · have e2 : ¬ g = T.f n := by
          rw [h1.1]
          exact fun z => e1 (f_inj (hb m List.mem_cons_self) hn z)
        rw [if_neg e1, if_neg e2]
        obtain ⟨i1, i2, i3⟩ := putN_ok hn r (ns := ms) (ds := ds) (fs := fs) (fun q hq => hb q (List.mem_cons_of_mem _ hq)) h1.2 (by rw [hr]; exact k2)
        refine ⟨by simp [h1.1, i1], ⟨w, _, rfl, k1, i2⟩, fun q hq => ?_⟩
        rcases List.mem_cons.mp hq with z | z
        · exact .inr (by rw [z]; exact List.mem_cons_self)
        · exact (i3 q z).imp id (List.mem_cons_of_mem _)
/-- o.f = v, o an owned instance of class c -/
def setF (c : Nat) (s : Sto) (o : D) (n : Nat) (v : D) : Option Sto := match o with
  | .own l => match s[l]? with
    | some (.ins c' ns vs) => if c' = c ∧ ns.length < 900 then some (s.set l (.ins c' (putN n v ns vs).1 (putN n v ns vs).2)) else none
    | _ => none
  | _ => none
def fSetF (c n : Nat) (fo fv : M D) : MS := bndS fv fun v => bndS fo fun o ρ s => (setF c s o n v).map fun s1 => .nx ρ s1
theorem ds_fld {a : Str} (c n : Nat) (hn : n < C.T.fld.length) (hna : NoAttr C.T.K (C.T.ad c) (C.T.f n)) (ho : DE X C o fo) (hv : DE X C e fv) (hf : C.T.f n = a := by rfl) (hs : swapsWith e (some (.Attribute o a p')) pos.line X.env = pure false := by rfl) (hK : X.K = C.T.K := by rfl) :
    DS X C (.Assign [.Attribute o a p'] e pos) (fSetF c n fo fv) :=
  let ⟨_, po, eo⟩ := ho.ex
  let ⟨_, pv, ev⟩ := hv.ex
  ⟨_, ps_fld po pv hs, fun ws H s σ ρ out E S N h q => (ev.st) S N h q fun v s1 k1 vv ws1 H1 t1 S1 r1 => (eo.st) S1 (N.stp t1) k1 (q.stp t1) fun od s2 k2 ov ws2 H2 t2 S2 r2 => by
    obtain ⟨s3, k3, rfl⟩ := Option.map_eq_some_iff.mp k2
    unfold setF at k3
    split at k3
    · rename_i l
      split at k3
      · rename_i c' ns vs hl
        split at k3
        · rename_i hc
          cases k3
          obtain ⟨a', ha, rfl⟩ := r2
          obtain ⟨o, h3, h4⟩ := S2.own l a' _ ha hl
          cases o with
          | ins Cc dx fs =>
            obtain ⟨e1, i1, i2, i3⟩ := h4
            subst e1
            obtain ⟨j1, j2, j3⟩ := putN_ok hn (r1.stp t2) (fun m hm => (i1.2 m hm).1) i2 i3
            subst hf
            rw [hK]
            have hcc := hc.1
            subst hcc
            have hlen : fs.length < 1000 := by
              have := congrArg List.length i2
              simp at this
              omega
            refine ⟨a', _, dx, fs, rfl, h3, i1.1.cl, hna, hlen, ?_⟩
            have SR : SoRel C.T ws2 (mask ws2 H2) (.ins (C.T.ad c') dx (putF (C.T.f n) vv fs)) (.ins c' (putN n v ns vs).1 (putN n v ns vs).2) := ⟨rfl, ⟨i1.1, fun m hm => (j3 m hm).elim (fun z => by rw [z]; exact ⟨hn, hna⟩) (i1.2 m)⟩, j1, j2⟩
            have t4 : Stp ws2 H2 ws2 (upd H2 a' (.ins (C.T.ad c') dx (putF (C.T.f n) vv fs))) := S2.stp_put ha
            exact q σ ws2 _ ((t1.trans t2).trans t4) (S2.put ha SR) (((N.stp t1).stp t2).stp t4)
          | _ => exact h4.elim
        · cases k3
      · cases k3
    · cases k3⟩

/-! ### making -/
def makeD (kp : Bool) (c : Nat) (m : FM) : FM := fun s xs => match m (s ++ [.ins c [] []]) (.own s.length :: xs) with
  | some (.ok .non s') => fin kp s.length (.own s.length) s'
  | some (.ex e s') => finX s.length e s'
  | _ => none
theorem de_make {x : Str} {n k : Nat} {m : FM} {fd : FuncData} {ps : List Str} {fI : Addr} (kp : Bool) (c : Nat) (tk : Takes X C.W) (Mk' : Mk X.K (C.T.ad c) fI) (IC : InsC C.T.K (C.T.ad c)) (F : FnOk X.prog X.w X.K X.mg X.base (L2.CX X.prog X.w) k fI fd ps (spF C.T (n + 1) m)) (hr : Room (k + 1) X.A) (hm : X.mg x = some (.ref (C.T.ad c))) (hb : Binds X.K fd ps [])
    (ha : DA X C (e :: es) fa) (hg : Gl X x := by rfl) (hdb : (x == ("__debug__" : Str)) = false := by decide)
    (he : starEach (e :: es) X.env = (false, eval e X.env) :: starEach es X.env := by rfl) (hpl : (backTo pos (starEach es X.env)).any (·.1) = false := by rfl) : DE X C (.Call (.Name x p) (e :: es) [] pos) (fCall n (makeD kp c m) fa) :=
  let ⟨_, pa, ea⟩ := ha.ex
  ⟨_, vm_pe_make Mk' F hr hg hm hb (passAt tk) pa hdb he hpl, fun ws H s σ ρ R Q S N h xx q => (ea.b) S N h xx fun xs s1 h vs ws1 H1 t1 S1 r1 => by
    split at h
    · rename_i hl
      intro y dx hy hdx hne
      unfold makeD at h
      -- the new object
      have tA : Stp ws1 H1 ws1 (upd H1 dx (.own y)) := S1.stp_new hdx
      have SA : Sta C.T ws1 (upd H1 dx (.own y)) s1 := S1.new hdx
      have hy2 : upd H1 dx (.own y) y = none := by rw [upd_ne (Ne.symm hne)]; exact hy
      have tB : Stp ws1 (upd H1 dx (.own y)) (ws1.add y) (upd (upd H1 dx (.own y)) y (.ins (C.T.ad c) dx [])) := SA.stp_own hy2
      have SB : Sta C.T (ws1.add y) (upd (upd H1 dx (.own y)) y (.ins (C.T.ad c) dx [])) (s1 ++ [.ins c [] []]) := SA.newOwn (so := .ins c [] []) hy2 ⟨rfl, ⟨IC, fun _ z => nomatch z⟩, rfl, rfl⟩
      have tAB := tA.trans tB
      have hlen : (V.ref y :: vs).length = n + 1 := by rw [List.length_cons, ← r1.length, hl]
      have rr : Reps C.T (ws1.add y) (mask (ws1.add y) (upd (upd H1 dx (.own y)) y (.ins (C.T.ad c) dx []))) (.own s1.length :: xs) (V.ref y :: vs) := ⟨_, _, rfl, rep_last SA, r1.stp tAB⟩
      split at h
      · rename_i s' hm'
        refine ⟨hlen, _, _, _, _, SB, rr, hm', True.intro, fun d s2 e v ws2 H2 t2 S2 r2 => ?_⟩
        cases e
        refine ⟨r2, ?_⟩
        obtain ⟨d3, s3, rfl⟩ := fin_res h
        have ro : Rep C.T ws2 (mask ws2 H2) (.own s1.length) (.ref y) := (rep_last (M := mask (ws1.add y) (upd (upd H1 dx (.own y)) y (.ins (C.T.ad c) dx []))) SA).stp t2
        obtain ⟨ws3, t3, S3, r3⟩ := fin_ok S1 (tAB.trans t2) S2 ro h
        exact q _ _ rfl _ ws3 H2 (t1.trans t3) S3 r3
      · rename_i e s' hm'
        refine ⟨hlen, _, _, _, _, SB, rr, hm', ?_, fun d s2 e => nomatch e⟩
        intro cls dx' ws2 H2 t2 S2 x2
        obtain ⟨s3, ws3, rfl, t3, S3, x3⟩ := finX_ok S1 (tAB.trans t2) S2 x2 h
        exact (xx.stp t1) cls dx' ws3 H2 t3 S3 x3
      · cases h
    · cases h⟩

/-! ### methods -/
/-- an instance of the class c -/
def fCl (c : Nat) (f : M D) : M D := bnd f fun x => got fun s => match insD s x with
  | some (c', _, _) => if c' = c then some x else none
  | none => none
def fMeth (c n : Nat) (m : FM) (fo : M D) (fa : M (List D)) : M D := bnd (fCl c fo) fun o => bnd fa fun xs => fun _ s => if xs.length = n then m s (o :: xs) else none
theorem bnd_fCl {β : Type} {c : Nat} {fo : M D} {k : D → M β} : bnd (fCl c fo) k = bnd fo fun x => bnd (got fun s => match insD s x with
  | some (c', _, _) => if c' = c then some x else none
  | none => none) k := by
  funext ρ s
  unfold fCl bnd
  cases fo ρ s with
  | none => rfl
  | some r => cases r <;> rfl
theorem lookup_none {T : Kt} {m : Str} (h : m ∉ T.fld) {ns : List Nat} (hb : ∀ q ∈ ns, q < T.fld.length) {fs : List (Str × V)} (e : fs.map (·.1) = ns.map T.f) : fs.lookup m = none := by
  cases hl : fs.lookup m with
  | none => rfl
  | some v =>
    have : m ∈ fs.map (·.1) := List.mem_map.mpr ⟨(m, v), PySem.mem_of_lookup hl, rfl⟩
    rw [e] at this
    obtain ⟨q, hq, rfl⟩ := List.mem_map.mp this
    refine absurd ?_ h
    unfold Kt.f
    rw [List.getD_eq_getElem?_getD, List.getElem?_eq_getElem (hb q hq)]
    exact List.getElem_mem _
theorem de_meth {m : Str} {n k : Nat} {mm : FM} {fd : FuncData} {ps : List Str} {g : Addr} {pl : Sem Bool} (c : Nat) (tk : Takes X C.W) (hm : Meth X.K (C.T.ad c) m g) (IC : InsC C.T.K (C.T.ad c)) (hmf : m ∉ C.T.fld) (F : FnOk X.prog X.w X.K X.mg X.base (L2.CX X.prog X.w) k g fd ps (spF C.T (n + 1) mm)) (hr : Room k X.A) (hb : Binds X.K fd ps [])
    (ho : DE X C o fo) (ha : DA X C (e :: es) fa)
    (hst : starEach (e :: es) X.env = (false, eval e X.env) :: starEach es X.env := by rfl) (hpl : (backTo pos (starEach es X.env)).any (·.1) = false := by rfl)
    (ht : eval (.Call (.Attribute o m apos) (e :: es) [] pos) X.env = (do
      let ov ← eval o X.env
      standAt apos.atName
      let (f, first) ← holding [ov] (getMethod ov m pl)
      callWith pos f first (backTo pos (starEach (e :: es) X.env)) (backToKw pos (keywordEach [] X.env))) := by rfl) (hK : X.K = C.T.K := by rfl) : DE X C (.Call (.Attribute o m apos) (e :: es) [] pos) (fMeth c n mm fo fa) :=
  let ⟨_, po, eo⟩ := ho.ex
  let ⟨_, pa, ea⟩ := ha.ex
  ⟨_, vm_pe_meth po (hK ▸ IC.cl) hm F hr hb (passAt tk) pa hst hpl ht, fun ws H s σ ρ R Q S N h xx q => by
    unfold fMeth at h
    rw [bnd_fCl] at h
    refine (eo.b) S N h xx fun x s1 h v ws1 H1 t1 S1 r1 => ?_
    obtain ⟨x', g1, hz⟩ := bnd_got h
    split at g1
    · rename_i c' ns ds hi
      split at g1
      · rename_i hc
        cases g1
        subst hc
        obtain ⟨a', dx, fs, rfl, k1, k2, k3, k4⟩ := ins_ok S1 r1 hi
        refine ⟨a', dx, fs, rfl, k1, lookup_none hmf (fun q hq => (k2.2 q hq).1) k3, (ea.b) S1 (N.stp t1) hz (xx.stp t1) fun xs s2 h vs ws2 H2 t2 S2 r2 => ?_⟩
        split at h
        · rename_i hl
          exact ⟨by rw [List.length_cons, ← r2.length, hl], ws2, s2, x :: xs, R, S2, ⟨_, _, rfl, r1.stp t2, r2⟩, h, xe_of (xx.stp (t1.trans t2)), fun d s' e v ws3 H3 t3 S3 r3 => q d s' e v ws3 H3 ((t1.trans t2).trans t3) S3 r3⟩
        · cases h
      · cases g1
    · cases g1⟩
def fMeth0 (c : Nat) (m : FM) (fo : M D) : M D := bnd (fCl c fo) fun o => fun _ s => m s [o]
theorem de_meth0 {m : Str} {k : Nat} {mm : FM} {fd : FuncData} {ps : List Str} {g : Addr} {pl : Sem Bool} (c : Nat) (tk : Takes X C.W) (hm : Meth X.K (C.T.ad c) m g) (IC : InsC C.T.K (C.T.ad c)) (hmf : m ∉ C.T.fld) (F : FnOk X.prog X.w X.K X.mg X.base (L2.CX X.prog X.w) k g fd ps (spF C.T 1 mm)) (hr : Room k X.A) (hb : Binds X.K fd ps [])
    (ho : DE X C o fo)
    (ht : eval (.Call (.Attribute o m apos) [] [] pos) X.env = (do
      let ov ← eval o X.env
      standAt apos.atName
      let (f, first) ← holding [ov] (getMethod ov m pl)
      callWith pos f first (backTo pos (starEach [] X.env)) (backToKw pos (keywordEach [] X.env))) := by rfl) (hK : X.K = C.T.K := by rfl) : DE X C (.Call (.Attribute o m apos) [] [] pos) (fMeth0 c mm fo) :=
  let ⟨_, po, eo⟩ := ho.ex
  ⟨_, vm_pe_meth0 po (hK ▸ IC.cl) hm F hr hb (passAt tk) ht, fun ws H s σ ρ R Q S N h xx q => by
    unfold fMeth0 at h
    rw [bnd_fCl] at h
    refine (eo.b) S N h xx fun x s1 h v ws1 H1 t1 S1 r1 => ?_
    obtain ⟨x', g1, hz⟩ := bnd_got h
    split at g1
    · rename_i c' ns ds hi
      split at g1
      · rename_i hc
        cases g1
        subst hc
        obtain ⟨a', dx, fs, rfl, k1, k2, k3, k4⟩ := ins_ok S1 r1 hi
        exact ⟨a', dx, fs, rfl, k1, lookup_none hmf (fun q hq => (k2.2 q hq).1) k3, rfl, ws1, s1, [x], R, S1, ⟨_, _, rfl, r1, rfl⟩, hz, xe_of (xx.stp t1), fun d s' e v ws3 H3 t3 S3 r3 => q d s' e v ws3 H3 (t1.trans t3) S3 r3⟩
      · cases g1
    · cases g1⟩
def fCall0 (m : FM) : M D := fun _ s => m s []
theorem de_call0 {x : Str} {k : Nat} {m : FM} {fd : FuncData} {ps : List Str} {f : Addr} (tk : Takes X C.W) (F : FnOk X.prog X.w X.K X.mg X.base (L2.CX X.prog X.w) k f fd ps (spF C.T 0 m)) (hr : Room k X.A) (hm : X.mg x = some (.ref f)) (hk : PySem.W.keepIn X.K (.ref f) = true) (hb : Binds X.K fd ps [])
    (hg : Gl X x := by rfl) (hdb : (x == ("__debug__" : Str)) = false := by decide) : DE X C (.Call (.Name x p) [] [] pos) (fCall0 m) :=
  ⟨_, vm_pe_call0 F hr hg hm hk hb (passAt tk) hdb, fun ws H s σ ρ R Q S N h xx q => ⟨rfl, ws, s, [], R, S, rfl, h, xe_of xx, fun d s' e v ws2 H2 t2 S2 r2 => q d s' e v ws2 H2 t2 S2 r2⟩⟩
end
end
end VM
set_option Elab.async false
set_option maxRecDepth 100000
set_option maxHeartbeats 4000000
set_option linter.all false
set_option autoImplicit false
/-! == and != of instances by their own __eq__. -/
namespace PySem.W
open PySem PySem.Calls PyProof.Rows
section
variable {prog : Program} {w : World} {A : Around} {E : Value → Shared → Prop} {s : Shared} {K : Frag} {x C L f : Addr} {h₀ : Heap} {m : Str → Option Value} {ox : Obj} {od : Option Obj} {b tb : Value}
theorem vm_objNe {Q : Fin → Shared → Prop} (hu : A.units < cLine) (X : K.In s.heap) (I : InstAt s.heap x ox C od) (hs : findIn K (.ref C) "__eq__" = some (some (.ref f))) (hf : isFn K (.ref f) = true)
    (h : wpAny (model prog w) A (call (.ref f) [.ref x, b]) (fun v s' => ∃ c, v = .bool c ∧ Q (.done (.ret (.bool (!c)))) s') E s) : wpAny (model prog w) A (Builtin.«object.__ne__» ⟨[.ref x, b], []⟩) Q E s := by
  unfold Builtin.«object.__ne__»
  refine wpAny_bind (wpAny_of_eq (a := ((Value.ref x : Value), [b])) (by first | rfl | (simp only [slotArgs]; rfl)) ?_)
  refine wpAny_bind (wpAny_cRoomFor hu ?_)
  refine wpAny_bind (ifBound_K X I hs hf (wpAny_mono h (fun v s' hv => ?_) fun _ _ e => e))
  obtain ⟨c, rfl, q⟩ := hv
  exact wpAny_bind (wpAny_truthy_bool (wpAny_pure q))
theorem vm_ifBound {name : Str} {id : String} {args : List Value} {T : String} {Q : Option Value → Shared → Prop} (S : PySem.Slot T name id) (X : K.In s.heap) (I : InstAt s.heap x ox C od) (hs : findIn K (.ref C) name = some (some (.builtin id)))
    (h : wpAny (model prog w) A (call (.builtin id) (.ref x :: args)) (fun v => Q (some v)) E s) : wpAny (model prog w) A (callSpecialIfBound? (.ref x) name args) Q E s := by
  simp only [callSpecialIfBound?, bindSpecialIfBound?]
  refine wpAny_holding (wpAny_bind (wpAny_bind (wpAny_bind (I.type.here ((looks_findIn X hs).here ?_)))))
  refine wpAny_bind (wpAny_askSetting (wpAny_ite ?_))
  have fin : wpAny (model prog w) A (call (.builtin id) ([.ref x] ++ args) >>= fun v => pure (some v)) Q E s := wpAny_bind (wpAny_mono h (fun v s' h' => wpAny_pure h') fun _ _ h' => h')
  split
  · exact wpAny_bind (wpAny_of_eq (S.bind _) (wpAny_pure (by exact fin)))
  · exact wpAny_tryCatch (wpAny_bind (wpAny_of_eq (S.bind _) (wpAny_pure (by exact fin))))
theorem vm_ne_K {Q : Value → Shared → Prop} (hu : A.units + 1 < cLine) (F : Fr h₀ L s.heap m) (X₀ : K.In h₀) (I : InstAt s.heap x ox C od) (hb : Looks (model prog w) s.heap (typeOf b) tb) (hn : notFirst K C tb = true)
    (hne : findIn K (.ref C) "__ne__" = some (some (.builtin "object.__ne__"))) (hm : mroIn K C (.type "object") = some true) (hs : findIn K (.ref C) "__eq__" = some (some (.ref f))) (hf : isFn K (.ref f) = true)
    (h : wpAny (model prog w) A.in1 (call (.ref f) [.ref x, b]) (fun v s' => ∃ c, v = .bool c ∧ Q (.bool (!c)) s') E s) : wpAny (model prog w) A (richCompare .NotEq (.ref x) b) Q E s := by
  have X := X₀.keeps F.keep
  have one : wpAny (model prog w) A (tryCompare (.ref x) (cmpInfo .NotEq).2.1 b) (fun r s' => ∃ v, r = some v ∧ Q v s') E s := by
    unfold tryCompare
    refine wpAny_bind (vm_ifBound PySem.F.cmp_object.ne X I hne ?_)
    refine wpAny_call (codeAny_call_builtin PySem.F.cmp_object.ne.plain PySem.F.cmpEntry_ne (check_slot PySem.F.cmpKind_ne PySem.F.cmpSplit_ne (I.type.andThen (looks_mroIn X hm)) (PySem.F.cmpArgs_ne _ _) ?_))
    refine vm_objNe (A := A.in1) hu X I hs hf (wpAny_mono h (fun v s' z => ?_) fun _ _ e => e)
    obtain ⟨c, rfl, q⟩ := z
    exact ⟨c, rfl, wpAny_pure ⟨_, rfl, q⟩⟩
  unfold richCompare
  simp only [oneThing_ref]
  refine wpAny_holding (wpAny_bind (wpAny_cRoomFor (Nat.lt_of_succ_lt hu) ?_))
  refine wpAny_bind (I.type.here (wpAny_bind (hb.here ?_)))
  split
  · rename_i q
    have e : subIn K tb (.ref C) = some false := by
      rcases Bool.or_eq_true_iff.mp hn with e | e
      · rw [beq_iff_eq.mp e] at q; simp at q
      · exact beq_iff_eq.mp e
    refine wpAny_bind ((looks_subIn X e).here ?_)
    simp only [Bool.false_eq_true, if_false]
    refine wpAny_bind (wpAny_mono one (fun r s' z => ?_) fun _ _ e => e)
    obtain ⟨v, rfl, hq⟩ := z
    exact wpAny_pure hq
  · refine wpAny_bind (wpAny_pure ?_)
    simp only [Bool.false_eq_true, if_false]
    refine wpAny_bind (wpAny_mono one (fun r s' z => ?_) fun _ _ e => e)
    obtain ⟨v, rfl, hq⟩ := z
    exact wpAny_pure hq
end
end PySem.W
namespace L2
open PySem PySem.Spec PyProof.Rows
def rEqI (neg : Bool) (C : Addr) (sp : Sp) : R2 := fun x y H Q => ∃ a b dx dy fs gs, x = .ref a ∧ y = .ref b ∧ H a = some (.ins C dx fs) ∧ H b = some (.ins C dy gs) ∧ sp [.ref a, .ref b] H (fun v H' => ∃ c : Bool, v = .bl c ∧ Q (.bl (c != neg)) H') E0
section
variable {X : Cx} {n : Nat} {f C : Addr} {fd : FuncData} {ps : List Str} {sp : Sp}
theorem run_eqI {A : Around} {pins : List (Addr × Obj)} {s : Shared} {σ : St} {H : Hp} {a b : Addr} {Q : Value → Shared → Prop} {Q' : VK} (F : FnOk X.prog X.w X.K X.mg X.base (L2.CX X.prog X.w) n f fd ps sp) (hb : Binds X.K fd ps []) (hr : Room n A) (hfr : A.frames = X.A.frames) (I : Inv X pins σ H s)
    (h : sp [.ref a, .ref b] H Q' E0) (hq : ∀ v H' u s', Inv X pins σ H' s' → RelV v u → Q' v H' → Q u s') : wpAny (model X.prog X.w) A (call (.ref f) [.ref a, .ref b]) Q X.xe s := by
  have e0 : Env0 X.prog X.w X.K X.mg X.base A X.stack s H := by
    have e := I.env0
    exact ⟨by rw [hfr]; exact e.frames, e.mod, e.bs, e.bsz, e.funs, e.frf, e.hok, e.bare⟩
  have hl := F.len _ _ _ _ h
  have r2 : Vals [V.ref a, V.ref b] [Value.ref a, Value.ref b] := .cons rfl (.cons rfl .nil)
  refine wpAny_call (codeAny_mono (F.run A X.stack s H ⟨[.ref a, .ref b], []⟩ [.ref a, .ref b] [.ref a, .ref b] _ E0 hr e0 (by
    have := hb s [.ref a, .ref b] I.kIn (by simpa using hl)
    simpa using this) r2 h) fun r s' hq' => ?_)
  cases r with
  | error e =>
    obtain ⟨_, _, _, _, _, _, _, _, _, _, _, _, z⟩ := hq'
    exact z.elim
  | ok fl =>
    cases fl with
    | ret w =>
      obtain ⟨z, H', I', rz, ez⟩ := I.after hq'
      exact hq z H' w s' I' rz ez
    | next => exact False.elim hq'
    | brk => exact False.elim hq'
    | cont => exact False.elim hq'
theorem op_eqI (F : FnOk X.prog X.w X.K X.mg X.base (L2.CX X.prog X.w) n f fd ps sp) (hs : PySem.W.findIn X.K (.ref C) "__eq__" = some (some (.ref f))) (hf : PySem.W.isFn X.K (.ref f) = true) (hb : Binds X.K fd ps []) (hr : Room n X.A) : OpR X (compareOp .Eq) (rEqI false C sp) := by
  intro pins s σ H x y v u Q I rx ry hh
  obtain ⟨a, b, dx, dy, fs, gs, rfl, rfl, ha, hb', hsp⟩ := hh
  cases rx
  cases ry
  obtain ⟨mA, J, _⟩ := ins_get I.hok ha
  obtain ⟨mB, J', _⟩ := ins_get I.hok hb'
  obtain ⟨od, J, _⟩ := J.look
  obtain ⟨od', J', _⟩ := J'.look
  obtain ⟨m, hF⟩ := I.fr
  show wpAny (model X.prog X.w) X.A (richCompare .Eq (.ref a) (.ref b)) (EP X pins σ Q) X.xe s
  refine PySem.W.cmp_K (op := .Eq) (tb := .ref C) hr.units0 hF I.ok.mod.kin J J'.type (by simp [PySem.W.notFirst]) hs hf ?_
  refine run_eqI F hb hr rfl I hsp fun v H' u s' I' r q => ?_
  obtain ⟨c, rfl, q⟩ := q
  cases r
  rw [Bool.bne_false] at q
  exact ⟨.bl c, H', I', rfl, q⟩
theorem op_neI (F : FnOk X.prog X.w X.K X.mg X.base (L2.CX X.prog X.w) n f fd ps sp) (hs : PySem.W.findIn X.K (.ref C) "__eq__" = some (some (.ref f))) (hne : PySem.W.findIn X.K (.ref C) "__ne__" = some (some (.builtin "object.__ne__"))) (hm : PySem.W.mroIn X.K C (.type "object") = some true)
    (hf : PySem.W.isFn X.K (.ref f) = true) (hb : Binds X.K fd ps []) (hr : Room (n + 1) X.A) : OpR X (compareOp .NotEq) (rEqI true C sp) := by
  intro pins s σ H x y v u Q I rx ry hh
  obtain ⟨a, b, dx, dy, fs, gs, rfl, rfl, ha, hb', hsp⟩ := hh
  cases rx
  cases ry
  obtain ⟨mA, J, _⟩ := ins_get I.hok ha
  obtain ⟨mB, J', _⟩ := ins_get I.hok hb'
  obtain ⟨od, J, _⟩ := J.look
  obtain ⟨od', J', _⟩ := J'.look
  obtain ⟨m, hF⟩ := I.fr
  show wpAny (model X.prog X.w) X.A (richCompare .NotEq (.ref a) (.ref b)) (EP X pins σ Q) X.xe s
  refine PySem.W.vm_ne_K (tb := .ref C) (by have := hr.un; omega) hF I.ok.mod.kin J J'.type (by simp [PySem.W.notFirst]) hne hm hs hf ?_
  refine run_eqI F hb hr.in1 rfl I hsp fun v H' u s' I' r q => ?_
  obtain ⟨c, rfl, q⟩ := q
  cases r
  rw [Bool.bne_true] at q
  exact ⟨c, rfl, .bl (!c), H', I', rfl, q⟩
end
end L2
namespace VM
open PySem L2
noncomputable section
/-- as OpS, the store behind told too -/
def OpM (T : Kt) (r : R2) (g : Sto → D → D → Option (D × Sto)) : Prop := ∀ (ws : Ws) (H : Hp) (s : Sto) (x y z : D) (s' : Sto) (v u : V) (Q : VK), Sta T ws H s → Rep T ws (mask ws H) x v → Rep T ws (mask ws H) y u → g s x y = some (z, s') →
  (∀ w ws' H', Stp ws H ws' H' → Sta T ws' H' s' → Rep T ws' (mask ws' H') z w → Q w H') → r v u H Q
def upM (g : G2) : Sto → D → D → Option (D × Sto) := fun s x y => (g s x y).map fun z => (z, s)
def orM (g g' : Sto → D → D → Option (D × Sto)) : Sto → D → D → Option (D × Sto) := fun s x y => match g s x y with
  | some z => some z
  | none => g' s x y
theorem OpS.up {T : Kt} {r : R2} {g : G2} (h : OpS T r g) : OpM T r (upM g) := fun ws H s x y z s' v u Q S r1 r2 e q => by
  obtain ⟨z', e1, e2⟩ := Option.map_eq_some_iff.mp e
  cases e2
  exact h ws H s x y _ v u Q S r1 r2 e1 q
theorem OpM.or {T : Kt} {r r' : R2} {g g' : Sto → D → D → Option (D × Sto)} (h : OpM T r g) (h' : OpM T r' g') : OpM T (fun x y H Q => r x y H Q ∨ r' x y H Q) (orM g g') := fun ws H s x y z s' v u Q S r1 r2 e q => by
  unfold orM at e
  split at e
  · rename_i e1
    cases e
    exact .inl (h ws H s x y _ _ v u Q S r1 r2 e1 q)
  · exact .inr (h' ws H s x y z s' v u Q S r1 r2 e q)
/-- own ==: the class, its __eq__ -/
def eqI (neg : Bool) (c : Nat) (m : FM) : Sto → D → D → Option (D × Sto) := fun s x y => match insD s x, insD s y with
  | some (c1, _, _), some (c2, _, _) => if c1 = c ∧ c2 = c then match m s [x, y] with
    | some (.ok (.bl b) s') => some (.bl (b != neg), s')
    | _ => none
    else none
  | _, _ => none
theorem opm_eqI {T : Kt} {neg : Bool} {c : Nat} {m : FM} : OpM T (rEqI neg (T.ad c) (spF T 2 m)) (eqI neg c m) := fun ws H s x y z s' v u Q S r1 r2 e q => by
  unfold eqI at e
  split at e
  · rename_i c1 n1 d1 c2 n2 d2 h1 h2
    split at e
    · rename_i hc
      obtain ⟨rfl, rfl⟩ := hc
      split at e
      · rename_i b s2 hm
        cases e
        obtain ⟨a, dx, fs, rfl, k1, _⟩ := ins_ok S r1 h1
        obtain ⟨a', dx', fs', rfl, k1', _⟩ := ins_ok S r2 h2
        refine ⟨a, a', dx, dx', fs, fs', rfl, rfl, k1, k1', rfl, ws, s, [x, y], _, S, ⟨_, _, rfl, r1, _, _, rfl, r2, rfl⟩, hm, True.intro, fun d s3 e v ws' H' t S' r' => ?_⟩
        cases e
        cases r'
        exact ⟨b, rfl, q _ ws' H' t S' rfl⟩
      · cases e
    · cases e
  · cases e
section
variable {X : Cx} {C : Cn} {a b e : Expr} {fa fb : M D} {pos p : Pos}
def fOpM (g : Sto → D → D → Option (D × Sto)) (fa fb : M D) : M D := bnd fa fun x => bnd fb fun y => fun _ s => (g s x y).map fun z => .ok z.1 z.2
theorem ev_opM {ta tb : TE} {r : R2} {g : Sto → D → D → Option (D × Sto)} (ha : EvS C ta fa) (hb : EvS C tb fb) (ho : OpM C.T r g) : EvS C (tOp r ta tb) (fOpM g fa fb) := fun ws H s σ ρ R Q S N h xx q =>
  (ha.b) S N h xx fun x s1 h v ws1 H1 t1 S1 r1 => (hb.b) S1 (N.stp t1) h (xx.stp t1) fun y s2 h u ws2 H2 t2 S2 r2 => by
    obtain ⟨⟨z, s3⟩, h3, rfl⟩ := Option.map_eq_some_iff.mp h
    exact ho ws2 H2 _ x y z s3 v u Q S2 (r1.stp t2) r2 h3 fun w ws' H' t3 S3 r3 => q _ _ rfl w ws' H' ((t1.trans t2).trans t3) S3 r3
theorem de_cmpM {op : CmpOp} {r : R2} {gg : Sto → D → D → Option (D × Sto)} (hr : OpR X (compareOp op) r) (ho : OpM C.T r gg) (ha : DE X C a fa) (hb : DE X C b fb) (hm : behindInMarks op b = false) : DE X C (.Compare a [op] [b] pos) (fOpM gg fa fb) :=
  let ⟨_, pa, ea⟩ := ha.ex
  let ⟨_, pb, eb⟩ := hb.ex
  ⟨_, pe_cmpR hr pa pb hm, ev_opM ea eb ho⟩
theorem dt_cmpM {op : CmpOp} {r : R2} {gg : Sto → D → D → Option (D × Sto)} (hr : OpR X (compareOp op) r) (ho : OpM C.T r gg) (ha : DE X C a fa) (hb : DE X C b fb) (hm : behindInMarks op b = false) : DT X C (.Compare a [op] [b] pos) (fBl (fOpM gg fa fb)) :=
  let ⟨_, pa, ea⟩ := ha.ex
  let ⟨_, pb, eb⟩ := hb.ex
  ⟨_, pt_cmpR hr pa pb hm, ev_test (ev_opM ea eb ho)⟩
end
end
end VM
set_option Elab.async false
set_option maxRecDepth 100000
set_option maxHeartbeats 4000000
set_option linter.all false
set_option autoImplicit false
/-! Sets of ints out of lists. -/
namespace L2
open PySem PySem.Spec PyProof.Rows
section
variable {P : Program} {w : World} {A : Around} {E : Value → Shared → Prop} {s : Shared}
abbrev vmS (w : World) : Obj := { cls := .type "set", dict := none, data := .set #[] 0 (.fresh 0 0 (!w.params.followText "set-order")) }
theorem vm_set_list {l : Addr} {items : Array Value} (ns : List Int) {Q : Value → Shared → Prop} (hh : A.handled = none) (hl : s.heap.IsList l items) (hit : IntsAre items.toList ns) (hb : ns.length + 1 < scanBound)
    (h : ∀ (h' : Heap) (tk c : Nat), SetR w h' s.heap.objs.size (fun j => decide (j ∈ ns)) c → c ≤ ns.length → (∀ b o, s.heap.get? b = some o → h'.get? b = some o) → Q (.ref s.heap.objs.size) { s with heap := h', toks := tk }) :
    wpAny (model P w) A (call (.type "set") [.ref l]) Q E s := by
  have hz : items.size = ns.length := by rw [← Array.length_toList]; exact IntsAre.length hit
  -- type.__call__: set.__new__, then set.__init__
  obtain ⟨c, tl, hmro⟩ := F.called_set.mro
  have z1 := F.called_set.made
  have z2 := F.called_set.sub
  have z3 := F.called_set.notType
  have z4 := F.called_set.canCreate
  have z5 := F.typeCall_set_1 (.ref l)
  refine wpAny_call (codeAny_of_tree (show wpAny _ _ (callAny (.type "set") _) _ _ _ from wpAny_pure ⟨Code.quiet_builtin _ (by decide +kernel), codeAny_builtin F.entry_type_call ?_⟩))
  rw [Around.under_plain (weight_type_call_type "set" [.ref l] []) rfl]
  repeat (any_goals (first | assumption | wp_step))
  refine codeAny_mono (code_set_led1 (.ref l) (E := E) (Q₁ := fun obj s₁ => obj = .ref s.heap.objs.size ∧ s₁ = { s with heap := s.heap.push (vmS w) }) ⟨rfl, rfl⟩) fun r s₁ hr => ?_
  match r, hr with
  | .error _, hr => exact hr
  | .ok .next, hr => exact hr.elim
  | .ok .brk, hr => exact hr.elim
  | .ok .cont, hr => exact hr.elim
  | .ok (.ret _), hr =>
  obtain ⟨rfl, rfl⟩ := hr
  have hS : (s.heap.push (vmS w)).get? s.heap.objs.size = some (vmS w) := Heap.get?_push_size _ rfl
  have hT : Shared.TypeIs { s with heap := s.heap.push (vmS w) } (.ref s.heap.objs.size) "set" := ⟨_, hS, rfl⟩
  have z6 := F.called_set.init.lookup
  have z7 := F.called_set.init.bind (.ref s.heap.objs.size)
  repeat (any_goals (first | assumption | wp_step))
  refine codeAny_mono (codeAny_call_builtin (R := wants (fun r s₂ => r = .none ∧ Q (.ref s.heap.objs.size) s₂) E) F.called_set.init.plain F.entry_set_init (check_set_init_1 hT ?_)) fun r₂ s₂ hr₂ => ?_
  rotate_left
  · match r₂, hr₂ with
    | .error _, hr₂ => exact hr₂
    | .ok .next, hr₂ => exact hr₂.elim
    | .ok .brk, hr₂ => exact hr₂.elim
    | .ok .cont, hr₂ => exact hr₂.elim
    | .ok (.ret _), hr₂ =>
      obtain ⟨rfl, q⟩ := hr₂
      repeat (any_goals (first | assumption | wp_step))
  have hlt : l < s.heap.objs.size := by
    obtain ⟨o, e, _⟩ := hl
    exact Heap.lt_size e
  have hl1 : (s.heap.push (vmS w)).IsList l items := hl.push _
  obtain ⟨⟨oc, od, dt, sl⟩, hol, hcl, nl, hdl⟩ := id hl1
  simp only at hcl hdl
  subst hcl hdl
  have f1 := F.sub_list_set
  have f2 := F.sub_list_frozenset
  have f3 : (Value.type "list" == Value.type "dict") = false := by decide
  unfold Builtin.«set.__init__» noKeywords Builtin.Frozenset.updateFrom
  generalize hPI : pyIter = PI
  wp_walk
  subst hPI
  refine wpAny_pyIter_list hl1 ?_
  refine wpAny_bind (wpAny_runValue ?_)
  have hI : (s.heap.push (vmS w)).objs.size = s.heap.objs.size + 1 := Heap.size_push ..
  have hne : l ≠ (s.heap.push (vmS w)).objs.size := by rw [hI]; exact Nat.ne_of_lt (Nat.lt_succ_of_lt hlt)
  have hSf : s.heap.objs.size ∉ [(s.heap.push (vmS w)).objs.size, l] := by
    rw [hI]
    simp only [List.mem_cons, List.not_mem_nil, or_false, not_or]
    exact ⟨Nat.ne_of_lt (Nat.lt_succ_self _), Nat.ne_of_gt hlt⟩
  refine set_update_ints ((Walks.list (by simp [hh]) _ l hne items).toS) s.heap.objs.size hSf ns hz hb (fun i v hv => ?_) (items.size - 0) 0 _ (by omega) (Nat.zero_le _) ⟨⟨_, Heap.get?_push_size _ rfl, rfl, rfl⟩, hl1.push _⟩ ⟨0, Nat.le_refl 0, setR_new_at (Heap.get?_push_of_some _ hS)⟩ fun s' c hm hc hR => ?_
  · have hi : i < ns.length := by rw [← hz]; exact (Array.getElem?_eq_some_iff.mp hv).1
    obtain ⟨t, e⟩ := PyProof.Rows.IntsAre.int_at hit i v (by rw [Array.getElem?_toList]; exact hv)
    exact ⟨ns[i], t, List.getElem?_eq_getElem hi, by rw [e, List.getD_eq_getElem?_getD, List.getElem?_eq_getElem hi] <;> rfl⟩
  · have e : s' = { s with heap := s'.heap, toks := s'.toks } := by
      have e1 := hm.gens
      have e2 := hm.drawn
      have e3 := hm.os
      cases s'
      cases s
      simp only at e1 e2 e3
      subst e1 e2 e3
      rfl
    rw [e]
    refine wpAny_pure (wpAny_pure ⟨rfl, h _ _ c hR (hz ▸ hc) fun b o eb => ?_⟩)
    have hb0 := Heap.lt_size eb
    refine hm.heap b o ?_ (Heap.get?_push_of_some _ (Heap.get?_push_of_some _ eb))
    simp only [List.mem_cons, List.not_mem_nil, or_false, not_or]
    exact ⟨Nat.ne_of_lt hb0, by rw [hI]; exact Nat.ne_of_lt (Nat.lt_succ_of_lt hb0)⟩
end
end L2
set_option Elab.async false
set_option maxRecDepth 100000
set_option maxHeartbeats 4000000
set_option linter.all false
set_option autoImplicit false
/-! set, sorted, min, max, str. -/
namespace L2
open PySem PySem.Spec PyProof.Rows
theorem setR_card {w : World} {h : Heap} {a : Addr} {S : Int → Bool} {n : Nat} (R : SetR w h a S n) {l : List Int} (nd : l.Nodup) (m : ∀ k, k ∈ l ↔ S k = true) : n = l.length := by
  obtain ⟨o, es, ep, t, _, _, _, _, nd2, hm, _, _, hn, _⟩ := R
  have p := (List.perm_ext_iff_of_nodup nd nd2).mpr fun k => (m k).trans (hm k)
  rw [← hn, p.length_eq, List.length_map, Array.length_toList]
theorem vm_or {X : Cx} {f : Value} {r r' : List V → Hp → VK → Prop} (h : CallR X f r) (h' : CallR X f r') : CallR X f (fun vs H Q => r vs H Q ∨ r' vs H Q) := fun pins s σ H vs us Q I rv q => q.elim (h pins s σ H vs us Q I rv) (h' pins s σ H vs us Q I rv)
section
variable {X : Cx}
/-- set(xs), xs a list of ints -/
def vmSetI (K : PySem.W.Frag) (w : World) : List V → Hp → VK → Prop := fun vs H Q => ∃ (l : Addr) (ns : List Int), vs = [V.ref l] ∧ SqL K H l (ns.map V.int) ∧ ns.length ≤ 4000 ∧ ∀ a n, H a = none → (∀ l : List Int, l.Nodup → (∀ k, k ∈ l ↔ k ∈ ns) → n = l.length) → Q (.ref a) (upd H a (SetO w a (fun j => decide (j ∈ ns)) n))
theorem vm_setI (hc : X.calm = true) : CallR X (.type "set") (vmSetI X.K X.w) := by
  intro pins s σ H vs us Q I r h
  obtain ⟨l, ns, rfl, hs, hz, q⟩ := h
  obtain ⟨its, rv, hl, _⟩ := I.list hs
  rw [Vals.ref1 r]
  refine vm_set_list (P := X.prog) (w := X.w) ns (I.ok.hd hc) hl.isList (by simpa using rv.ints) (by show ns.length + 1 < 4096; omega) fun h' tk c R hcz k => ?_
  exact ⟨.ref s.heap.objs.size, _, I.laid (t' := tk) k (Nat.le_refl _) (setO_new R), rfl, q _ c (I.hok.fresh (Nat.le_refl _)) fun l nd m => setR_card R nd fun k => by rw [m k, decide_eq_true_iff]⟩
end
end L2
namespace VM
open PySem L2
noncomputable section

/-! ### sorted rows of ints -/
def insI (x : Int) : List Int → List Int
  | [] => [x]
  | y :: r => if x ≤ y then x :: y :: r else y :: insI x r
def sortI : List Int → List Int
  | [] => []
  | x :: r => insI x (sortI r)
def dedI : List Int → List Int
  | [] => []
  | x :: r => if x ∈ r then dedI r else x :: dedI r
theorem insI_perm (x : Int) : ∀ l : List Int, (insI x l).Perm (x :: l)
  | [] => .refl _
  | y :: r => by
    unfold insI
    split
    · exact .refl _
    · exact ((insI_perm x r).cons y).trans (.swap x y r)
theorem sortI_perm : ∀ l : List Int, (sortI l).Perm l
  | [] => .refl _
  | x :: r => (insI_perm x _).trans ((sortI_perm r).cons x)
theorem insI_sorted (x : Int) : ∀ l : List Int, l.Pairwise (· ≤ ·) → (insI x l).Pairwise (· ≤ ·)
  | [], _ => by simp [insI]
  | y :: r, h => by
    obtain ⟨h1, h2⟩ := List.pairwise_cons.mp h
    unfold insI
    split
    · rename_i hx
      exact List.pairwise_cons.mpr ⟨fun z hz => by
        rcases List.mem_cons.mp hz with e | e
        · rw [e]; exact hx
        · exact Int.le_trans hx (h1 z e), h⟩
    · rename_i hx
      refine List.pairwise_cons.mpr ⟨fun z hz => ?_, insI_sorted x r h2⟩
      rcases List.mem_cons.mp ((insI_perm x r).mem_iff.mp hz) with e | e
      · rw [e]; omega
      · exact h1 z e
theorem sortI_sorted : ∀ l : List Int, (sortI l).Pairwise (· ≤ ·)
  | [] => List.Pairwise.nil
  | x :: r => insI_sorted x _ (sortI_sorted r)
theorem sorted_eq {a b : List Int} (h1 : a.Pairwise (· ≤ ·)) (h2 : b.Pairwise (· ≤ ·)) (p : a.Perm b) : a = b :=
  List.Perm.eq_of_pairwise (le := (· ≤ ·)) (fun _ _ _ _ h h' => Int.le_antisymm h h') h1 h2 p
theorem mem_dedI : ∀ (l : List Int) (x : Int), x ∈ dedI l ↔ x ∈ l
  | [], x => Iff.rfl
  | y :: r, x => by
    unfold dedI
    split
    · rename_i hy
      rw [mem_dedI r x, List.mem_cons]
      exact ⟨.inr, fun h => h.elim (fun e => e ▸ hy) id⟩
    · rw [List.mem_cons, List.mem_cons, mem_dedI r x]
theorem dedI_nodup : ∀ l : List Int, (dedI l).Nodup
  | [] => List.nodup_nil
  | y :: r => by
    unfold dedI
    split
    · exact dedI_nodup r
    · rename_i hy
      exact List.nodup_cons.mpr ⟨fun h => hy ((mem_dedI r y).mp h), dedI_nodup r⟩
theorem dedI_len : ∀ l : List Int, (dedI l).length ≤ l.length
  | [] => Nat.le_refl _
  | y :: r => by
    unfold dedI
    split
    · exact Nat.le_succ_of_le (dedI_len r)
    · exact Nat.succ_le_succ (dedI_len r)

/-! ### what they are of data -/
def setD (s : Sto) (x : D) : Option D := ((itL s x).bind intsD).bind fun ns => if ns.length ≤ 4000 then some (.set false ((dedI ns).map .int)) else none
theorem cs_set {T : Kt} : CallS T (vmSetI T.K T.w) (c1 setD) := fun ws H s xs z vs Q S r e q => by
  obtain ⟨x, rfl, e1⟩ := c1_some e
  obtain ⟨v, rfl, r1⟩ := reps_one r
  obtain ⟨ns, e2, e3⟩ := Option.bind_eq_some_iff.mp e1
  obtain ⟨ds, e4, e5⟩ := Option.bind_eq_some_iff.mp e2
  obtain ⟨a, ys, rfl, h1, h2⟩ := itL_ok S r1 e4
  have := intsD_ok h2 e5
  subst this
  split at e3
  · rename_i hz
    cases e3
    refine ⟨a, ns, rfl, h1, hz, fun p n hp hn => ?_⟩
    have t : Stp ws H ws (upd H p (SetO T.w p (fun j => decide (j ∈ ns)) n)) := S.stp_new hp
    refine q _ ws _ t (S.new hp) ⟨p, rfl, .inl ⟨rfl, _, n, S.at_new hp, dedI ns, rfl, dedI_nodup ns, ?_, ?_⟩⟩
    · rw [hn (dedI ns) (dedI_nodup ns) (mem_dedI ns)]
    · funext j
      exact decide_eq_decide.mpr (mem_dedI ns j).symm
  · cases e3
/-- sorted(..) of ints: a list, a set, the keys of a dict -/
def sortedD (s : Sto) (x : D) : Option D := match x with
  | .set false ds => (intsD ds).bind fun ns => if ns.length < 64 then some (.lst ((sortI ns).map .int)) else none
  | .dct false ks _ => (intsD ks).bind fun ns => if ns.length < 64 then some (.lst ((sortI ns).map .int)) else none
  | x => ((itL s x).bind intsD).map fun ns => .lst ((sortI ns).map .int)
def rSrt (K : PySem.W.Frag) (w : World) : List V → Hp → VK → Prop := fun vs H Q => rSortedI K vs H Q ∨ (rSortedSet w vs H Q ∨ ∃ (a : Addr) (kvs : List (Key × V)) (ks : List Int), vs = [.ref a] ∧ Rd H a (.dK kvs) ∧ kvs.map (·.1) = ks.map Sum.inl ∧ ks.length < 64 ∧
    ∀ (ys : List Int) (p : Addr), ys.Perm ks → ys.Pairwise (· ≤ ·) → H p = none → Q (.ref p) (upd H p (.lst (ys.map V.int))))
theorem cr_srt {X : Cx} (hc : X.calm = true) : CallR X (.builtin "sorted") (rSrt X.K X.w) := vm_or cr_sortedI (vm_or (cr_sortedSet hc) (call_sortedDI hc))
theorem reps_ints {T : Kt} {ws : Ws} {M : Hp} : ∀ ns : List Int, Reps T ws M (ns.map D.int) (ns.map V.int)
  | [] => rfl
  | n :: ns => ⟨.int n, ns.map V.int, rfl, rfl, reps_ints ns⟩
theorem intsD_map : ∀ ns : List Int, intsD (ns.map D.int) = some ns
  | [] => rfl
  | n :: ns => by
    show (intsD (ns.map D.int)).map (n :: ·) = _
    rw [intsD_map ns]
    rfl
theorem keyD_int {k : Key} {i : Int} (h : keyD k = .int i) : k = .inl i := by
  cases k with
  | inl j => cases h; rfl
  | inr x => cases h
theorem intsD_keys : ∀ {kvs : List (Key × V)} {ns : List Int}, intsD (kvs.map fun p => keyD p.1) = some ns → kvs.map (·.1) = ns.map Sum.inl
  | [], ns, h => by cases h; rfl
  | (k, v) :: r, ns, h => by
    simp only [List.map_cons] at h
    unfold intsD at h
    split at h
    · rename_i hh; cases hh
    · rename_i i ds' hh
      injection hh with h1 h2
      subst h2
      obtain ⟨ms, h3, rfl⟩ := Option.map_eq_some_iff.mp h
      rw [List.map_cons, List.map_cons, intsD_keys h3, keyD_int h1]
    · cases h
theorem intsD_tup {α : Type} {f : α → List D} : ∀ {l : List α} {ns : List Int}, intsD (l.map fun p => .tup (f p)) = some ns → l = []
  | [], _, _ => rfl
  | _ :: _, _, h => by cases h
theorem cs_srt {T : Kt} : CallS T (rSrt T.K T.w) (c1 sortedD) := fun ws H s xs z vs Q S r e q => by
  obtain ⟨x, rfl, e1⟩ := c1_some e
  obtain ⟨v, rfl, r1⟩ := reps_one r
  have fin : ∀ (ns ys : List Int) (p : Addr), ys.Perm ns → ys.Pairwise (· ≤ ·) → H p = none → some (D.lst ((sortI ns).map .int)) = some z → Q (.ref p) (upd H p (.lst (ys.map V.int))) := fun ns ys p h1 h2 hp ez => by
    cases ez
    have t : Stp ws H ws (upd H p (.lst (ys.map V.int))) := S.stp_new hp
    refine q _ ws _ t (S.new hp) ⟨p, _, rfl, S.at_new hp, ?_⟩
    rw [sorted_eq (sortI_sorted ns) h2 ((sortI_perm ns).trans h1.symm)]
    exact reps_ints ys
  have gen : ((itL s x).bind intsD).map (fun ns => D.lst ((sortI ns).map .int)) = some z → rSrt T.K T.w [v] H Q := fun e2 => by
    obtain ⟨ns, e3, e4⟩ := Option.map_eq_some_iff.mp e2
    obtain ⟨ds, e5, e6⟩ := Option.bind_eq_some_iff.mp e3
    obtain ⟨a, ys, rfl, h1, h2⟩ := itL_ok S r1 e5
    have := intsD_ok h2 e6
    subst this
    exact .inl ⟨a, ns, rfl, h1, fun ys p h3 h4 hp => fin ns ys p h3 h4 hp (by rw [e4])⟩
  cases x with
  | set t ds =>
    cases t with
    | true => cases e1
    | false =>
      obtain ⟨ns, e2, e3⟩ := Option.bind_eq_some_iff.mp e1
      split at e3
      · rename_i h64
        obtain ⟨a, rfl, ⟨_, S', n, h1, is, rfl, nd, hn, hS⟩ | ⟨z, _⟩⟩ := r1
        · rw [intsD_map] at e2
          cases e2
          refine .inr (.inl ⟨a, S', n, rfl, (mask_some h1).2, by omega, fun ys p h3 h4 h5 hp => ?_⟩)
          have nd2 : ys.Nodup := h3.imp fun h => Int.ne_of_lt h
          refine fin ns ys p ((List.perm_ext_iff_of_nodup nd2 nd).mpr fun k => ?_) (h3.imp fun h => Int.le_of_lt h) hp e3
          rw [h4 k, hS, decide_eq_true_iff]
        · cases z
      · cases e3
  | dct t ks ds =>
    cases t with
    | true => cases e1
    | false =>
      obtain ⟨ns, e2, e3⟩ := Option.bind_eq_some_iff.mp e1
      split at e3
      · rename_i h64
        obtain ⟨a, rfl, ⟨_, kvs, h1, rfl, h3⟩ | ⟨z, _⟩⟩ := r1
        · exact .inr (.inr ⟨a, kvs, ns, rfl, .of (mask_some h1).2, intsD_keys e2, h64, fun ys p h4 h5 hp => fin ns ys p h4 h5 hp e3⟩)
        · cases z
      · cases e3
  | lst ds => exact gen e1
  | lck ds => exact gen e1
  | own l => exact gen e1
  | _ => cases e1
end
end VM
set_option Elab.async false
set_option maxRecDepth 100000
set_option maxHeartbeats 4000000
set_option linter.all false
set_option autoImplicit false
/-! Dicts whose keys are ints and texts. -/
namespace VM
open PySem L2
noncomputable section

def keyK : D → Option Key
  | .int i => some (.inl i)
  | .str x => some (.inr x)
  | _ => none
theorem keyK_rep {T : Kt} {ws : Ws} {H : Hp} {d : D} {v : V} {k : Key} (r : Rep T ws H d v) (h : keyK d = some k) : v = kV k := by
  cases d <;> first | (cases h; done) | (cases h; cases r; rfl)
theorem keyK_keyD (k : Key) : keyK (keyD k) = some k := by cases k <;> rfl
/-- what stands at a key -/
def lookD (k : Key) : List D → List D → Option D
  | x :: ks, v :: vs => if keyK x = some k then some v else lookD k ks vs
  | _, _ => none
def hasK (k : Key) (ks : List D) : Bool := ks.any fun x => decide (keyK x = some k)
def putVs (k : Key) (z : D) : List D → List D → List D
  | x :: ks, v :: vs => (if keyK x = some k then z else v) :: putVs k z ks vs
  | _, _ => []
def kputD (k : Key) (z : D) (ks vs : List D) : List D × List D := if hasK k ks = true then (ks, putVs k z ks vs) else (ks ++ [keyD k], vs ++ [z])
/-- keys and values of a dict -/
def dctOf (s : Sto) : D → Option (List D × List D)
  | .dct false ks vs => some (ks, vs)
  | .own l => match s[l]? with
    | some (.dct false ks vs) => some (ks, vs)
    | _ => none
  | _ => none
theorem dctOf_ok {T : Kt} {ws : Ws} {H : Hp} {s : Sto} {d : D} {v : V} {ks vs : List D} (S : Sta T ws H s) (r : Rep T ws (mask ws H) d v) (h : dctOf s d = some (ks, vs)) :
    ∃ a kvs, v = .ref a ∧ H a = some (.dK kvs) ∧ ks = kvs.map (fun p => keyD p.1) ∧ Reps T ws (mask ws H) vs (kvs.map (·.2)) := by
  cases d with
  | dct t ks' vs' =>
    cases t with
    | true => cases h
    | false =>
      cases h
      obtain ⟨a, rfl, ⟨_, kvs, h1, h2, h3⟩ | ⟨z, _⟩⟩ := r
      · exact ⟨a, kvs, rfl, (mask_some h1).2, h2, h3⟩
      · cases z
  | own l =>
    obtain ⟨a, h1, rfl⟩ := r
    simp only [dctOf] at h
    split at h
    · rename_i e
      cases h
      obtain ⟨o, h2, h3⟩ := S.own l a _ h1 e
      cases o <;> first | exact h3.elim | skip
      · exact ⟨a, _, rfl, h2, h3.2.1, h3.2.2⟩
      · cases h3.1
    · cases h
  | _ => cases h
theorem lookD_ok {T : Kt} {ws : Ws} {H : Hp} (k : Key) : ∀ {kvs : List (Key × V)} {vs : List D}, Reps T ws H vs (kvs.map (·.2)) →
    (∀ z, lookD k (kvs.map fun p => keyD p.1) vs = some z → ∃ w, valV kvs k = some w ∧ Rep T ws H z w) ∧ (lookD k (kvs.map fun p => keyD p.1) vs = none → valV kvs k = none)
  | [], vs, _ => ⟨fun z h => by (cases vs <;> cases h), fun _ => rfl⟩
  | p :: kvs, [], r => by cases r
  | p :: kvs, d :: vs, ⟨v, r, hv, h1, h2⟩ => by
    rw [List.map_cons] at hv
    injection hv with e1 e2
    subst e1 e2
    have ih := lookD_ok k h2
    simp only [List.map_cons, lookD, keyK_keyD]
    by_cases e : p.1 = k
    · rw [if_pos (by rw [e]), valV_pos e]
      exact ⟨fun z hz => by cases hz; exact ⟨_, rfl, h1⟩, fun hz => by cases hz⟩
    · rw [if_neg (fun q => e (by injection q)), valV_neg e]
      exact ih
theorem hasK_any (k : Key) (kvs : List (Key × V)) : hasK k (kvs.map fun p => keyD p.1) = kvs.any fun p => decide (p.1 = k) := by
  unfold hasK
  rw [List.any_map]
  congr 1
  funext p
  simp only [Function.comp_apply, keyK_keyD, Option.some.injEq]
theorem putVs_ok {T : Kt} {ws : Ws} {H : Hp} (k : Key) {z : D} {w : V} (hz : Rep T ws H z w) : ∀ {kvs : List (Key × V)} {vs : List D}, Reps T ws H vs (kvs.map (·.2)) →
    Reps T ws H (putVs k z (kvs.map fun p => keyD p.1) vs) ((kvs.map fun kv => if kv.1 = k then (kv.1, w) else kv).map (·.2))
  | [], [], r => rfl
  | [], _ :: _, ⟨_, _, e, _⟩ => by cases e
  | p :: kvs, [], r => by cases r
  | p :: kvs, d :: vs, ⟨v, r, hv, h1, h2⟩ => by
    rw [List.map_cons] at hv
    injection hv with e1 e2
    subst e1 e2
    have ih := putVs_ok k hz h2
    simp only [List.map_cons, putVs, keyK_keyD]
    by_cases e : p.1 = k
    · rw [if_pos (by rw [e]), if_pos e]
      exact ⟨_, _, rfl, hz, ih⟩
    · rw [if_neg (fun q => e (by injection q)), if_neg e]
      exact ⟨_, _, rfl, h1, ih⟩
theorem map_repl (k : Key) (w : V) : ∀ kvs : List (Key × V), (kvs.map fun kv => if kv.1 = k then (kv.1, w) else kv).map (fun p => keyD p.1) = kvs.map fun p => keyD p.1
  | [] => rfl
  | p :: kvs => by
    rw [List.map_cons, List.map_cons, List.map_cons, map_repl k w kvs]
    by_cases e : p.1 = k
    · rw [if_pos e]
    · rw [if_neg e]
theorem kputD_ok {T : Kt} {ws : Ws} {H : Hp} {k : Key} {z : D} {w : V} {kvs : List (Key × V)} {vs : List D} (hz : Rep T ws H z w) (r : Reps T ws H vs (kvs.map (·.2))) :
    (kputD k z (kvs.map fun p => keyD p.1) vs).1 = (putK kvs k w).map (fun p => keyD p.1) ∧ Reps T ws H (kputD k z (kvs.map fun p => keyD p.1) vs).2 ((putK kvs k w).map (·.2)) := by
  unfold kputD putK
  rw [hasK_any]
  by_cases e : (kvs.any fun p => decide (p.1 = k)) = true
  · rw [if_pos e, if_pos e]
    exact ⟨(map_repl k w kvs).symm, putVs_ok k hz r⟩
  · rw [if_neg e, if_neg e, List.map_append, List.map_append]
    exact ⟨rfl, r.append ⟨w, [], rfl, hz, rfl⟩⟩

/-! ### d[k], k in d -/
def getD' (s : Sto) (x y : D) : Option D := (dctOf s x).bind fun p => (keyK y).bind fun k => lookD k p.1 p.2
def inD (s : Sto) (y x : D) : Option D := (dctOf s x).bind fun p => (keyK y).map fun k => .bl (lookD k p.1 p.2).isSome
def ninD (s : Sto) (y x : D) : Option D := (dctOf s x).bind fun p => (keyK y).map fun k => .bl (!(lookD k p.1 p.2).isSome)
theorem dget_ok {T : Kt} {ws : Ws} {H : Hp} {s : Sto} {x y : D} {v u : V} {p : List D × List D} {k : Key} (S : Sta T ws H s) (r1 : Rep T ws (mask ws H) x v) (r2 : Rep T ws (mask ws H) y u) (h1 : dctOf s x = some p) (h2 : keyK y = some k) :
    ∃ a o, v = .ref a ∧ DGet H a u o ∧ (match lookD k p.1 p.2 with | some z => ∃ w, o = some w ∧ Rep T ws (mask ws H) z w | none => o = none) := by
  obtain ⟨ks, vs⟩ := p
  obtain ⟨a, kvs, rfl, h3, rfl, h5⟩ := dctOf_ok S r1 h1
  have := keyK_rep r2 h2
  subst this
  refine ⟨a, valV kvs k, rfl, .k h3, ?_⟩
  obtain ⟨q1, q2⟩ := lookD_ok k h5
  show (match lookD k (kvs.map fun p => keyD p.1) vs with | some z => ∃ w, valV kvs k = some w ∧ Rep T ws (mask ws H) z w | none => valV kvs k = none)
  cases e : lookD k (kvs.map fun p => keyD p.1) vs with
  | some z => exact q1 z e
  | none => exact q2 e
abbrev rDGet : R2 := fun x y H Q => ∃ a v, x = .ref a ∧ DGet H a y (some v) ∧ Q v H
abbrev rDIn : R2 := fun y x H Q => ∃ a o, x = .ref a ∧ DGet H a y o ∧ Q (.bl o.isSome) H
abbrev rDNin : R2 := fun y x H Q => ∃ a o, x = .ref a ∧ DGet H a y o ∧ Q (.bl (!o.isSome)) H
theorem ops_dget {T : Kt} : OpS T rDGet getD' := fun ws H s x y z v u Q S r1 r2 e q => by
  obtain ⟨p, h1, e⟩ := Option.bind_eq_some_iff.mp e
  obtain ⟨k, h2, e⟩ := Option.bind_eq_some_iff.mp e
  obtain ⟨a, o, rfl, g, m⟩ := dget_ok S r1 r2 h1 h2
  rw [e] at m
  obtain ⟨w, rfl, rw'⟩ := m
  exact ⟨a, w, rfl, g, q _ ws H (Stp.refl _ _) S rw'⟩
theorem lk_is {T : Kt} {ws : Ws} {H : Hp} {l : Option D} {o : Option V} (m : match l with | some z => ∃ w, o = some w ∧ Rep T ws (mask ws H) z w | none => o = none) : l.isSome = o.isSome := by
  cases l with
  | some z => obtain ⟨w, rfl, _⟩ := m; rfl
  | none => cases m; rfl
theorem ops_din {T : Kt} : OpS T rDIn inD := fun ws H s x y z v u Q S r1 r2 e q => by
  obtain ⟨p, h1, e⟩ := Option.bind_eq_some_iff.mp e
  obtain ⟨k, h2, rfl⟩ := Option.map_eq_some_iff.mp e
  obtain ⟨a, o, rfl, g, m⟩ := dget_ok S r2 r1 h1 h2
  exact ⟨a, o, rfl, g, q _ ws H (Stp.refl _ _) S (by rw [lk_is m]; rfl)⟩
theorem ops_dnin {T : Kt} : OpS T rDNin ninD := fun ws H s x y z v u Q S r1 r2 e q => by
  obtain ⟨p, h1, e⟩ := Option.bind_eq_some_iff.mp e
  obtain ⟨k, h2, rfl⟩ := Option.map_eq_some_iff.mp e
  obtain ⟨a, o, rfl, g, m⟩ := dget_ok S r2 r1 h1 h2
  exact ⟨a, o, rfl, g, q _ ws H (Stp.refl _ _) S (by rw [lk_is m]; rfl)⟩
/-- one of two ways to read an operator -/
theorem bnd_ex {α β : Type} {f : M α} {k k' : α → M β} {ρ : Rho} {s : Sto} {r : Res β} (h : bnd f k ρ s = some r) : (∃ e s1, f ρ s = some (.ex e s1) ∧ r = .ex e s1) ∨ ∃ x s1, f ρ s = some (.ok x s1) ∧ k x ρ s1 = some r := by
  unfold bnd at h
  split at h
  · rename_i x s1 e; exact .inr ⟨x, s1, e, h⟩
  · rename_i e s1 e1; cases h; exact .inl ⟨e, s1, e1, rfl⟩
  · cases h
theorem fOp_or {g g' : G2} {fa fb : M D} {ρ : Rho} {s : Sto} {r : Res D} (h : fOp (fun s x y => (g s x y).or (g' s x y)) fa fb ρ s = some r) : fOp g fa fb ρ s = some r ∨ fOp g' fa fb ρ s = some r := by
  unfold fOp at h ⊢
  rcases bnd_ex (k' := fun x => ret x) h with ⟨e, s1, e1, rfl⟩ | ⟨x, s1, e1, h⟩
  · left
    unfold bnd
    rw [e1]
  · rcases bnd_ex (k' := fun x => ret x) h with ⟨e, s2, e2, rfl⟩ | ⟨y, s2, e2, h⟩
    · left
      simp only [bnd, e1, e2]
    · obtain ⟨z, h3, rfl⟩ := got_some h
      simp only [bnd, e1, e2, got]
      cases e3 : g s2 x y with
      | some z' =>
        simp only [e3, Option.some_or] at h3
        cases h3
        exact .inl rfl
      | none =>
        simp only [e3, Option.none_or] at h3
        rw [h3]
        exact .inr rfl
section
variable {X : Cx} {C : Cn} {a b e : Expr} {pos p : Pos}
theorem pe_or {t t' : TE} (h : PE X e t) (h' : PE X e t') : PE X e (fun σ H Q => t σ H Q ∨ t' σ H Q) := ⟨fun pins s σ H Q I q => q.elim (h.run pins s σ H Q I) (h'.run pins s σ H Q I)⟩
theorem de_or2 {g g' : G2} {fa fb : M D} (h : DE X C e (fOp g fa fb)) (h' : DE X C e (fOp g' fa fb)) : DE X C e (fOp (fun s x y => (g s x y).or (g' s x y)) fa fb) :=
  let ⟨_, pa, ea⟩ := h.ex
  let ⟨_, pb, eb⟩ := h'.ex
  ⟨_, pe_or pa pb, fun ws H s σ ρ r Q S N h xx q => (fOp_or h).elim (fun h => .inl (ea ws H s σ ρ r Q S N h xx q)) fun h => .inr (eb ws H s σ ρ r Q S N h xx q)⟩
theorem de_dget {fa fb : M D} (hu : X.A.units + 1 < cLine) (ha : DE X C a fa) (hb : DE X C b fb) (hs : NoSl b := by intro _ _; rfl) : DE X C (.Subscript a b pos) (fOp getD' fa fb) :=
  let ⟨_, pa, ea⟩ := ha.ex
  let ⟨_, pb, eb⟩ := hb.ex
  ⟨_, pe_dget hu pa pb hs, ev_op ea eb ops_dget⟩
/-- e[i], of a row or a dict -/
def ixU (s : Sto) (x y : D) : Option D := (ixD s x y).or (getD' s x y)
theorem de_ixU {fa fb : M D} (hu : X.A.units + 1 < cLine) (ha : DE X C a fa) (hb : DE X C b fb) (hp : PlainIx b := by intro _ _; rfl) (hs : NoSl b := by intro _ _; rfl) (hK : X.K = C.T.K := by rfl) : DE X C (.Subscript a b pos) (fOp ixU fa fb) :=
  de_or2 (de_ix ha hb hp hK) (de_dget hu ha hb hs)
theorem de_din {fa fb : M D} (hu : X.A.units + 1 < cLine) (ha : DE X C a fa) (hb : DE X C b fb) (hm : behindInMarks .In b = false := by rfl) : DE X C (.Compare a [.In] [b] pos) (fOp inD fa fb) :=
  let ⟨_, pa, ea⟩ := ha.ex
  let ⟨_, pb, eb⟩ := hb.ex
  ⟨_, pe_cmp (pc_din hu pa pb) hm, ev_op ea eb ops_din⟩
theorem dt_din {fa fb : M D} (hu : X.A.units + 1 < cLine) (ha : DE X C a fa) (hb : DE X C b fb) (hm : behindInMarks .In b = false := by rfl) : DT X C (.Compare a [.In] [b] pos) (fBl (fOp inD fa fb)) :=
  let ⟨_, pa, ea⟩ := ha.ex
  let ⟨_, pb, eb⟩ := hb.ex
  ⟨_, pt_cmp (pc_din hu pa pb) hm, ev_test (ev_op ea eb ops_din)⟩
theorem de_dnin {fa fb : M D} (hu : X.A.units + 1 < cLine) (ha : DE X C a fa) (hb : DE X C b fb) (hm : behindInMarks .NotIn b = false := by rfl) : DE X C (.Compare a [.NotIn] [b] pos) (fOp ninD fa fb) :=
  let ⟨_, pa, ea⟩ := ha.ex
  let ⟨_, pb, eb⟩ := hb.ex
  ⟨_, pe_cmp (pc_dnotin hu pa pb) hm, ev_op ea eb ops_dnin⟩
theorem dt_dnin {fa fb : M D} (hu : X.A.units + 1 < cLine) (ha : DE X C a fa) (hb : DE X C b fb) (hm : behindInMarks .NotIn b = false := by rfl) : DT X C (.Compare a [.NotIn] [b] pos) (fBl (fOp ninD fa fb)) :=
  let ⟨_, pa, ea⟩ := ha.ex
  let ⟨_, pb, eb⟩ := hb.ex
  ⟨_, pt_cmp (pc_dnotin hu pa pb) hm, ev_test (ev_op ea eb ops_dnin)⟩
end
end
end VM
set_option Elab.async false
set_option maxRecDepth 100000
set_option maxHeartbeats 4000000
set_option linter.all false
set_option autoImplicit false
/-! tuple * k, whatever k. -/
namespace L2
open PySem PySem.Spec PyProof.Rows
theorem vm_tm_same (l : Addr) (items : Array Value) (n : Nat) (dd : Option Addr) (sl : Array (Option Value)) (x : Int) (u : Tok) (c0 : (decide (x < -(2 ^ 63)) || decide (x ≥ 2 ^ 63)) = false) (c1 : (items.isEmpty || x == 1) = true) :
    Meets (Builtin.«tuple.__mul__» ⟨[.ref l, .int x u], []⟩) (fun _ R s => s.heap.get? l = some { cls := .type "tuple", dict := dd, data := .seq items n, slots := sl } ∧ R (.ok (.ret (Value.ref l))) s) :=
  .of_wp fun prog w A R s h => by
    obtain ⟨hp, g, d, tk, os⟩ := s
    obtain ⟨hl, h⟩ := h
    have f1 := AutoSeq1.idx_int
    wp_walk using wpAny_loadPart' hl
    refine wpAny_ite_false (decide_eq_false (by rw [c0]; exact Bool.false_ne_true)) ?_
    wp_walk using wpAny_loadPart' hl
    exact ⟨_, rfl, h⟩
theorem vm_tm_none (l : Addr) (items : Array Value) (n : Nat) (dd : Option Addr) (sl : Array (Option Value)) (x : Int) (u : Tok) (c0 : (decide (x < -(2 ^ 63)) || decide (x ≥ 2 ^ 63)) = false) (c1 : (items.isEmpty || x == 1) = false) (c2 : (decide (x ≤ 0) || items.isEmpty) = true) :
    Meets (Builtin.«tuple.__mul__» ⟨[.ref l, .int x u], []⟩) (fun _ R s => s.heap.get? l = some { cls := .type "tuple", dict := dd, data := .seq items n, slots := sl } ∧
      R (.ok (.ret (Value.ref s.heap.objs.size))) { s with heap := s.heap.push { cls := Value.type "tuple", data := Data.seq #[] }, toks := s.toks }) :=
  .of_wp fun prog w A R s h => by
    obtain ⟨hp, g, d, tk, os⟩ := s
    obtain ⟨hl, h⟩ := h
    have f1 := AutoSeq1.idx_int
    wp_walk using wpAny_loadPart' hl
    refine wpAny_ite_false (decide_eq_false (by rw [c0]; exact Bool.false_ne_true)) ?_
    wp_walk using wpAny_loadPart' hl
    exact ⟨_, rfl, h⟩
/-- t * k: the same tuple, none, or a new one -/
def vmRepT (K : PySem.W.Frag) : R2 := fun x y H Q => ∃ l k xs, x = .ref l ∧ y = .int k ∧ SqT K H l xs ∧ -1000 ≤ k ∧ k ≤ 1000 ∧ xs.length ≤ 1000 ∧ (((xs = [] ∨ k = 1) ∧ Q (.ref l) H) ∨ (¬ (xs = [] ∨ k = 1) ∧ ∀ p, H p = none → Q (.ref p) (upd H p (.tup (List.replicate k.toNat xs).flatten))))
theorem vm_repT {X : Cx} : OpR X (binaryOp .Mult) (vmRepT X.K) := by
  intro pins s σ H x y v u Q I rx ry h
  obtain ⟨l, k, xs, rfl, rfl, hT, hk1, hk2, hz, h⟩ := h
  rcases h with ⟨hc, q⟩ | ⟨hc, q⟩
  · cases rx
    obtain ⟨t, rfl⟩ := ry
    obtain ⟨its, r, ⟨⟨cls, dd, data, sl⟩, ho, hcl, n, hd⟩, hs⟩ := I.tuple hT
    simp only at hcl hd
    subst hcl hd
    have hle : its.length = xs.length := r.length.symm
    have c0 : (decide (k < -(2 ^ 63)) || decide (k ≥ 2 ^ 63)) = false := by
      rw [decide_eq_false (by omega), decide_eq_false (by omega)] <;> rfl
    have c1 : (its.toArray.isEmpty || k == 1) = true := by
      rcases hc with e | e
      · rw [e] at hle
        rw [List.eq_nil_of_length_eq_zero hle] <;> rfl
      · rw [e]; simp
    refine wpAny_binaryOp_repeat_ref (T := "tuple") (U := "int") (by decide) ⟨_, ho, rfl⟩ (fun s' => typeIs_int s' k t) noFill_tuple_mul F.fills_int_mul F.slot_int_rmul repeat_tuple F.slot_int_index.lookup
      (call_meets F.slot_int_rmul (typeIs_int s k t) F.entry_int_rmul (F.args_int_rmul_2 _ _) (int_rmul_tuple k t l its.toArray n dd sl)
        ⟨ho, rfl, ⟨_, ho, rfl⟩, call_meets F.slot_tuple_mul ⟨_, ho, rfl⟩ F.entry_tuple_mul (F.args_tuple_mul_2 _ _) (vm_tm_same l its.toArray n dd sl k t c0 c1) ⟨ho, ?_⟩⟩)
    exact ⟨.ref l, H, I.tok _, rfl, q⟩
  · by_cases h2 : 2 ≤ k
    · exact op_repT pins s σ H _ _ v u Q I rx ry ⟨l, k, xs, rfl, rfl, hT, fun e => hc (.inl e), h2, hk2, hz, q⟩
    · cases rx
      obtain ⟨t, rfl⟩ := ry
      obtain ⟨its, r, ⟨⟨cls, dd, data, sl⟩, ho, hcl, n, hd⟩, hs⟩ := I.tuple hT
      simp only at hcl hd
      subst hcl hd
      have hle : its.length = xs.length := r.length.symm
      have hk : k ≤ 0 := by
        have : k ≠ 1 := fun e => hc (.inr e)
        omega
      have c0 : (decide (k < -(2 ^ 63)) || decide (k ≥ 2 ^ 63)) = false := by
        rw [decide_eq_false (by omega), decide_eq_false (by omega)] <;> rfl
      have c1 : (its.toArray.isEmpty || k == 1) = false := by
        have : its.toArray.isEmpty = false := by
          cases its with
          | nil => exact absurd (List.eq_nil_of_length_eq_zero hle.symm) fun e => hc (.inl e)
          | cons _ _ => rfl
        rw [this, Bool.false_or]
        exact beq_eq_false_iff_ne.mpr (by omega)
      have c2 : (decide (k ≤ 0) || its.toArray.isEmpty) = true := by rw [decide_eq_true hk] <;> rfl
      refine wpAny_binaryOp_repeat_ref (T := "tuple") (U := "int") (by decide) ⟨_, ho, rfl⟩ (fun s' => typeIs_int s' k t) noFill_tuple_mul F.fills_int_mul F.slot_int_rmul repeat_tuple F.slot_int_index.lookup
        (call_meets F.slot_int_rmul (typeIs_int s k t) F.entry_int_rmul (F.args_int_rmul_2 _ _) (int_rmul_tuple k t l its.toArray n dd sl)
          ⟨ho, rfl, ⟨_, ho, rfl⟩, call_meets F.slot_tuple_mul ⟨_, ho, rfl⟩ F.entry_tuple_mul (F.args_tuple_mul_2 _ _) (vm_tm_none l its.toArray n dd sl k t c0 c1 c2) ⟨ho, ?_⟩⟩)
      have e0 : (List.replicate k.toNat xs).flatten = [] := by
        rw [show k.toNat = 0 by omega] <;> rfl
      rw [e0] at q
      refine ⟨.ref s.heap.objs.size, _, I.laid (t' := s.toks) (o := .tup []) (fun b ob q => Heap.get?_push_of_some _ q) (Nat.le_refl _) ?_, rfl, q _ (I.hok.fresh (Nat.le_refl _))⟩
      exact ⟨Nat.zero_le _, [], .nil, IsTup.new _ _⟩
end L2
namespace VM
open PySem L2
noncomputable section
/-- tuple * k -/
def mulT (s : Sto) (x y : D) : Option D := match x, y with
  | .tup ds, .int k => if -1000 ≤ k ∧ k ≤ 1000 ∧ ds.length ≤ 1000 then some (.tup (List.replicate k.toNat ds).flatten) else none
  | _, _ => none
theorem ops_mulT {T : Kt} : OpS T (vmRepT T.K) mulT := fun ws H s x y z v u Q S r1 r2 e q => by
  unfold mulT at e
  split at e
  · rename_i ds k
    split at e
    · rename_i hl
      cases e
      obtain ⟨a, xs, rfl, h1, k1⟩ := r1
      cases r2
      refine ⟨a, k, xs, rfl, rfl, sqT_un h1, hl.1, hl.2.1, by rw [← k1.length]; exact hl.2.2, ?_⟩
      by_cases hc : xs = [] ∨ k = 1
      · refine .inl ⟨hc, q _ ws H (Stp.refl _ _) S ⟨a, xs, rfl, h1, ?_⟩⟩
        rcases hc with e | e
        · subst e
          have hd : ds = [] := List.eq_nil_of_length_eq_zero k1.length
          rw [hd, List.flatten_replicate_nil] <;> rfl
        · subst e
          show Reps T ws (mask ws H) (List.replicate 1 ds).flatten xs
          rw [List.replicate_one, List.flatten_singleton]
          exact k1
      · refine .inr ⟨hc, fun p hp => ?_⟩
        have t : Stp ws H ws (upd H p (.tup (List.replicate k.toNat xs).flatten)) := S.stp_new hp
        exact q _ ws _ t (S.new hp) ⟨p, _, rfl, .of (S.at_new hp), (k1.replicate _).stp t⟩
    · cases e
  · cases e
def mulU (s : Sto) (x y : D) : Option D := (mulD s x y).or (mulT s x y)
theorem op_mulU {X : Cx} : OpR X (binaryOp .Mult) (fun x y H Q => (rI CMul (fun i j => .int (i * j)) x y H Q ∨ rRep x y H Q) ∨ vmRepT X.K x y H Q) := op_mul2.or vm_repT
theorem ops_mulU {T : Kt} : OpS T (fun x y H Q => (rI CMul (fun i j => .int (i * j)) x y H Q ∨ rRep x y H Q) ∨ vmRepT T.K x y H Q) mulU := ops_mul.or ops_mulT

/-! ### max and min of two, str of an int -/
def c2 (g : Sto → D → D → Option D) : GC := fun s xs => match xs with
  | [x, y] => g s x y
  | _ => none
theorem c2_some {g : Sto → D → D → Option D} {s : Sto} {xs : List D} {z : D} (h : c2 g s xs = some z) : ∃ x y, xs = [x, y] ∧ g s x y = some z := by
  unfold c2 at h
  split at h
  · exact ⟨_, _, rfl, h⟩
  · cases h
theorem reps_two {T : Kt} {ws : Ws} {H : Hp} {x y : D} {vs : List V} (r : Reps T ws H [x, y] vs) : ∃ v u, vs = [v, u] ∧ Rep T ws H x v ∧ Rep T ws H y u := by
  obtain ⟨v, r1, rfl, h1, h2⟩ := r
  obtain ⟨u, r2, rfl, h3, h4⟩ := h2
  cases h4
  exact ⟨v, u, rfl, h1, h3⟩
def max2D (_ : Sto) (x y : D) : Option D := match x, y with
  | .int i, .int j => some (.int (if j > i then j else i))
  | _, _ => none
def min2D (_ : Sto) (x y : D) : Option D := match x, y with
  | .int i, .int j => some (.int (if j < i then j else i))
  | _, _ => none
theorem cs_max2 {T : Kt} : CallS T (fun xs H Q => ∃ i j, xs = [.int i, .int j] ∧ Q (.int (if j > i then j else i)) H) (c2 max2D) := fun ws H s xs z vs Q S r e q => by
  obtain ⟨x, y, rfl, e1⟩ := c2_some e
  obtain ⟨v, u, rfl, r1, r2⟩ := reps_two r
  unfold max2D at e1
  split at e1
  · cases e1
    cases r1
    cases r2
    exact ⟨_, _, rfl, q _ ws H (Stp.refl _ _) S rfl⟩
  · cases e1
theorem cs_min2 {T : Kt} : CallS T (fun xs H Q => ∃ i j, xs = [.int i, .int j] ∧ Q (.int (if j < i then j else i)) H) (c2 min2D) := fun ws H s xs z vs Q S r e q => by
  obtain ⟨x, y, rfl, e1⟩ := c2_some e
  obtain ⟨v, u, rfl, r1, r2⟩ := reps_two r
  unfold min2D at e1
  split at e1
  · cases e1
    cases r1
    cases r2
    exact ⟨_, _, rfl, q _ ws H (Stp.refl _ _) S rfl⟩
  · cases e1
/-- ints that str takes -/
def strI (i : Int) : Bool := decide (i.natAbs.log2 < 1920)
@[irreducible] def istr (i : Int) : Str := toString i
def strD (_ : Sto) : D → Option D
  | .int i => if strI i = true then some (.str (istr i)) else none
  | _ => none
theorem cs_str {T : Kt} : CallS T (fun xs H Q => ∃ i, xs = [.int i] ∧ i.natAbs.log2 < 1920 ∧ Q (.str (toString i)) H) (c1 strD) := fun ws H s xs z vs Q S r e q => by
  obtain ⟨x, rfl, e1⟩ := c1_some e
  obtain ⟨v, rfl, r1⟩ := reps_one r
  unfold strD at e1
  split at e1
  · split at e1
    · rename_i h
      cases e1
      cases r1
      refine ⟨_, rfl, of_decide_eq_true h, q _ ws H (Stp.refl _ _) S ?_⟩
      show V.str _ = V.str _
      unfold istr
      rfl
    · cases e1
  · cases e1

/-! ### {}, d[k] = v -/
section
variable {X : Cx} {C : Cn} {e a b : Expr} {pos p : Pos} {fv : M D}
def fNewK : M D := fun _ s => some (.ok (.own s.length) (s ++ [.dct false [] []]))
theorem de_newK : DE X C (.Dict [] [] pos) fNewK := ⟨_, pe_dnewK, fun ws H s σ ρ r Q S N h xx q => by
  cases h
  intro p hp
  have t : Stp ws H (ws.add p) (upd H p (.dK [])) := S.stp_own hp
  exact q _ _ rfl _ (ws.add p) _ t (S.newOwn (so := .dct false [] []) hp ⟨rfl, rfl, rfl⟩) (rep_last S)⟩
def dputD (s : Sto) (o i v : D) : Option Sto := match o with
  | .own l => (dctOf s o).bind fun q => (keyK i).bind fun k => if q.1.length < LIM then some (s.set l (.dct false (kputD k v q.1 q.2).1 (kputD k v q.1 q.2).2)) else none
  | _ => none
def fSubD (fv fo fi : M D) : MS := bndS fv fun v => bndS fo fun o => bndS fi fun i ρ s => (dputD s o i v).map fun s1 => .nx ρ s1
theorem ds_dput {o i : Expr} {fo fi : M D} {pos' : Pos} (hu : X.A.units + 1 < cLine) (h : DE X C e fv) (ho : DE X C o fo) (hi : DE X C i fi) (hs : swapsWith e (some (.Subscript o i pos')) pos.line X.env = pure false := by rfl) :
    DS X C (.Assign [.Subscript o i pos'] e pos) (fSubD fv fo fi) :=
  let ⟨_, pa, ea⟩ := h.ex
  let ⟨_, po, eo⟩ := ho.ex
  let ⟨_, pi, ei⟩ := hi.ex
  ⟨_, ps_dput hu po pi pa hs, fun ws H s σ ρ out E S N h q =>
    (ea.st) S N h q fun v s1 k1 vv ws1 H1 t1 S1 r1 => (eo.st) S1 (N.stp t1) k1 (q.stp t1) fun od s2 k2 ov ws2 H2 t2 S2 r2 => (ei.st) S2 ((N.stp t1).stp t2) k2 ((q.stp t1).stp t2) fun id' s3 k3 iv ws3 H3 t3 S3 r3 => by
    obtain ⟨s4, k4, rfl⟩ := Option.map_eq_some_iff.mp k3
    unfold dputD at k4
    split at k4
    · rename_i l
      obtain ⟨⟨ks, vs⟩, k5, k4⟩ := Option.bind_eq_some_iff.mp k4
      obtain ⟨k, k6, k4⟩ := Option.bind_eq_some_iff.mp k4
      split at k4
      · rename_i hlt
        cases k4
        have r2' := r2.stp t3
        obtain ⟨a', kvs, ea', hx, rfl, rx⟩ := dctOf_ok S3 r2' k5
        obtain ⟨a, ha1, rfl⟩ := r2'
        cases ea'
        have hk := keyK_rep r3 k6
        subst hk
        have rv := (r1.stp t2).stp t3
        obtain ⟨p1, p2⟩ := kputD_ok (k := k) rv rx
        have S4 := S3.put (so := .dct false _ _) (o := .dK (putK kvs k vv)) ha1 ⟨rfl, p1, p2⟩
        have t4 : Stp ws3 H3 ws3 (upd H3 a' (.dK (putK kvs k vv))) := S3.stp_put ha1
        exact ⟨a', _, rfl, .k hx (lim_lt (by simpa using hlt)), q σ ws3 _ (((t1.trans t2).trans t3).trans t4) S4 ((((N.stp t1).stp t2).stp t3).stp t4)⟩
      · cases k4
    · cases k4⟩
end
end
end VM
set_option Elab.async false
set_option maxRecDepth 100000
set_option maxHeartbeats 4000000
set_option linter.all false
set_option autoImplicit false
/-! A dict's comprehension with two fors. -/
namespace L2
open PySem PySem.Spec PyProof.Rows
section
variable {prog : Program} {w : World} {A : Around}
/-- the tests of a clause -/
abbrev vmTests (ifs : List Expr) (env : Env) : Sem Bool := forIn ifs true fun c r => if r = true then do let ok ← isTrue c env (eval c env); pure (ForInStep.yield ok) else pure (ForInStep.yield r)
/-- a turn of a clause that does B with each item, and goes on -/
def vmTurn (e : Expr) (k : Nat) (p : Pos) (tg : Expr) (ifs : List Expr) (B : Sem Fin → Sem Fin) (it acc : Value) (env : Env) : Sem Fin :=
  standAt p >>= fun _ => pyNext it >>= fun r => match r with
    | none => pure (.done .next)
    | some v => letOwnedTupleGo tg it v >>= fun _ => assign tg env v >>= fun _ => vmTests ifs env >>= fun ok => if ok = true then B (again (.compLoop e k it acc env)) else again (.compLoop e k it acc env)
abbrev vmE (M : Model) (A : Around) (env : Env) (R : Result → Shared → Prop) : Value → Shared → Prop := notedBy M A env fun x s' => R (.error x) s'
/-- what stands behind a turn -/
abbrev vmAft (R : Result → Shared → Prop) (c : Code) (m : Nat) (J : Nat → Shared → Prop) : Fin → Shared → Prop := fun fin s' => match fin with
  | .done f => R (.ok f) s'
  | .again c' => c' = c ∧ ∃ m', m' < m ∧ J m' s'
theorem vm_loop {R : Result → Shared → Prop} {s : Shared} {e tg : Expr} {k : Nat} {p : Pos} {ifs : List Expr} {B : Sem Fin → Sem Fin} {it acc : Value} {env : Env} (hq : (Code.compLoop e k it acc env).quiet = true) (hu : A.under (.compLoop e k it acc env) = A)
    (hd : (model prog w).den (.compLoop e k it acc env) = (compTurn e k it acc env).onRaise (fun x => do noteFrame x env; theTreesLotGoes x)) (eq : compTurn e k it acc env = vmTurn e k p tg ifs B it acc env)
    (J : Nat → Shared → Prop)
    (turn : ∀ m s, J m s → wpAny (model prog w) A (pyNext it) (fun r s1 => match r with
      | none => R (.ok .next) s1
      | some v => wpAny (model prog w) A (letOwnedTupleGo tg it v) (fun _ s2 => wpAny (model prog w) A (assign tg env v) (fun _ s3 => wpAny (model prog w) A (vmTests ifs env) (fun ok s4 =>
          if ok = true then wpAny (model prog w) A (B (again (.compLoop e k it acc env))) (vmAft R (.compLoop e k it acc env) m J) (vmE (model prog w) A env R) s4 else ∃ m', m' < m ∧ J m' s4)
            (vmE (model prog w) A env R) s3) (vmE (model prog w) A env R) s2) (vmE (model prog w) A env R) s1) (vmE (model prog w) A env R) s)
    (m : Nat) (h : J m s) : codeAny (model prog w) A (.compLoop e k it acc env) R s := by
  refine codeAny_loop hq J (fun m s hJ => ?_) m h
  rw [hu, hd]
  refine wpAny_noted ?_
  rw [eq]
  refine wpAny_bind (wpAny_standAt (wpAny_bind (wpAny_mono (turn m s hJ) (fun r s1 h1 => ?_) fun _ _ z => z)))
  cases r with
  | none => exact wpAny_pure h1
  | some v => exact wpAny_bind (wpAny_mono h1 (fun _ s2 h2 => wpAny_bind (wpAny_mono h2 (fun _ s3 h3 => wpAny_bind (wpAny_mono h3 (fun ok s4 h4 => by
      cases ok with
      | false => exact wpAny_pure ⟨rfl, h4⟩
      | true => exact h4) fun _ _ z => z)) fun _ _ z => z)) fun _ _ z => z)
/-- what is done with each item of the first of two clauses -/
def vmInner (e : Expr) (i1 : Expr) (acc : Value) (env : Env) (k : Sem Fin) : Sem Fin :=
  eval i1 env >>= fun x => standAt i1.pos >>= fun _ => foldedSetIterable i1 env x >>= fun x => holding [x] (pyIter x) >>= fun it => runOwn (.compStart e 1 it acc env) env >>= fun _ => k
def vmEmit (kx vx : Expr) (d : Addr) (env : Env) : Sem Unit :=
  eval kx env >>= fun kv => holding [kv] (eval vx env) >>= fun vv => standAt { kx.pos with endLine := vx.pos.endLine, endCol := vx.pos.endCol } >>= fun _ => holding [kv, vv] (dictSet d kv vv)
theorem vm_dc_out (kx vx t0 i0 t1 i1 : Expr) (c0 c1 : List Expr) (sc : Scope) (p : Pos) (it acc : Value) (env : Env) :
    compTurn (.DictComp kx vx [⟨t0, i0, c0, 0⟩, ⟨t1, i1, c1, 0⟩] sc p) 0 it acc env = vmTurn (.DictComp kx vx [⟨t0, i0, c0, 0⟩, ⟨t1, i1, c1, 0⟩] sc p) 0 i0.pos t0 c0 (vmInner (.DictComp kx vx [⟨t0, i0, c0, 0⟩, ⟨t1, i1, c1, 0⟩] sc p) i1 acc env) it acc env := by
  unfold vmTurn vmInner
  rfl
theorem vm_dc_in (kx vx t0 i0 t1 i1 : Expr) (c0 c1 : List Expr) (sc : Scope) (p : Pos) (it : Value) (d : Addr) (env : Env) :
    compTurn (.DictComp kx vx [⟨t0, i0, c0, 0⟩, ⟨t1, i1, c1, 0⟩] sc p) 1 it (.ref d) env = vmTurn (.DictComp kx vx [⟨t0, i0, c0, 0⟩, ⟨t1, i1, c1, 0⟩] sc p) 1 i1.pos t1 c1 (fun k => vmEmit kx vx d env >>= fun _ => k) it (.ref d) env := by
  unfold vmTurn vmEmit
  rfl
/-- the first clause's loop: J behind the second's -/
theorem vm_inner {R : Result → Shared → Prop} {s : Shared} {e i1 : Expr} {acc : Value} {env : Env} {c : Code} {m : Nat} {J : Nat → Shared → Prop} (hs : ∀ x, foldedSetIterable i1 env x = pure x)
    (h : wpAny (model prog w) A (eval i1 env) (fun x s1 => wpAny (model prog w) A (pyIter x) (fun it s2 => codeAny (model prog w) A (.compStart e 1 it acc env) (fun r s' => match r with
      | .ok _ => ∃ m', m' < m ∧ J m' s'
      | .error _ => False) s2) (vmE (model prog w) A env R) s1) (vmE (model prog w) A env R) s) :
    wpAny (model prog w) A (vmInner e i1 acc env (again c)) (vmAft R c m J) (vmE (model prog w) A env R) s := by
  unfold vmInner
  refine wpAny_bind (wpAny_mono h (fun x s1 h1 => ?_) fun _ _ z => z)
  refine wpAny_bind (wpAny_standAt (wpAny_bind (wpAny_of_eq (hs x) (wpAny_bind (wpAny_holding (wpAny_mono h1 (fun it s2 h2 => ?_) fun _ _ z => z))))))
  refine wpAny_bind (wpAny_runOwn ?_)
  rw [Around.mark_none]
  refine codeAny_mono h2 fun r s' hr => ?_
  cases r with
  | ok f => first | exact wpAny_pure ⟨rfl, hr⟩ | exact wpAny_bind (wpAny_pure (wpAny_pure ⟨rfl, hr⟩))
  | error x => exact hr.elim
theorem vm_emit {R : Result → Shared → Prop} {s : Shared} {kx vx : Expr} {d : Addr} {env : Env} {c : Code} {m : Nat} {J : Nat → Shared → Prop}
    (h : wpAny (model prog w) A (eval kx env) (fun kv s1 => wpAny (model prog w) A (eval vx env) (fun vv s2 => wpAny (model prog w) A (dictSet d kv vv) (fun _ s3 => ∃ m', m' < m ∧ J m' s3) (vmE (model prog w) A env R) s2) (vmE (model prog w) A env R) s1) (vmE (model prog w) A env R) s) :
    wpAny (model prog w) A (vmEmit kx vx d env >>= fun _ => again c) (vmAft R c m J) (vmE (model prog w) A env R) s := by
  unfold vmEmit
  exact wpAny_bind (wpAny_bind (wpAny_mono h (fun kv s1 h1 => wpAny_bind (wpAny_holding (wpAny_mono h1 (fun vv s2 h2 => wpAny_bind (wpAny_standAt (wpAny_holding (wpAny_mono h2 (fun _ s3 h3 => wpAny_pure ⟨rfl, h3⟩) fun _ _ z => z)))) fun _ _ z => z))) fun _ _ z => z))
/-- a clause's start: as it stands, or asked for its iterator once more -/
theorem vm_start {R : Result → Shared → Prop} {s : Shared} {e : Expr} {k : Nat} {c : Comprehension} {it acc : Value} {env : Env} (hu : A.under (.compStart e k it acc env) = A)
    (hd : (model prog w).den (.compStart e k it acc env) = (compStart e k it acc env).onRaise (fun x => do noteFrame x env; standAt theWindowsPlace)) (hc : (clausesOf e)[k]? = some c) (ha : (c.is_async != 0) = false)
    (h0 : codeAny (model prog w) A (.compLoop e k it acc env) R s)
    (h : wpAny (model prog w) A (pyIter it) (fun i' s' => codeAny (model prog w) A (.compLoop e k i' acc env) R s') (vmE (model prog w) A env R) s) :
    codeAny (model prog w) A (.compStart e k it acc env) R s := by
  refine codeAny_of_tree ?_
  rw [hu, hd]
  refine wpAny_notedAt ?_
  unfold compStart
  rw [hc]
  simp only [Option.elim, ha, Bool.false_eq_true, if_false]
  refine wpAny_bind (wpAny_askSetting (wpAny_ite ?_))
  split
  · first | exact wpAny_bind (wpAny_pure (wpAny_pure (And.intro rfl h0))) | exact wpAny_pure (And.intro rfl h0)
  · exact wpAny_bind (wpAny_rule (wpAny_bind (wpAny_standAt (wpAny_bind (wpAny_mono h (fun i' s' h' => wpAny_pure (And.intro rfl h')) fun _ _ x => x)))))
end
end L2
set_option Elab.async false
set_option maxRecDepth 100000
set_option maxHeartbeats 4000000
set_option linter.all false
set_option autoImplicit false
/-! One clause of a comprehension, whatever is done with its items. -/
namespace L2
open PySem PySem.Spec PyProof.Rows
/-- where a clause's loop stands -/
def VmSt (Y : Cx) (pins : List (Addr × Obj)) (σ0 : St) (fp : List Addr) (tn : Nat → Heap → Prop) (W : Nat → Nat → Hp → Prop) (m : Nat) (s : Shared) : Prop := ∃ i H, Inv Y pins σ0 H s ∧ tn i s.heap ∧ (∀ b ∈ fp, H b = none) ∧ W i m H
/-- how a clause's loop goes: Bd is what is asked of an item that is taken -/
def VmGo (J : It) (g : TG) (tt : TT) (vs : List Nat) (σ0 : St) (W : Nat → Nat → Hp → Prop) (Fn : Hp → Prop) (Bd : (Hp → Prop) → St → Hp → Prop) : Prop := ∀ i m H, W i m H →
  (J.stop i H ∧ Fn H) ∨ (J.go i H ∧ ∃ Nx : Hp → Prop, (∀ H', Nx H' → ∃ m', m' < m ∧ W (i + 1) m' H') ∧ ∀ x H', J.yld i H x H' → g x σ0 H' fun σ2 H2 => wipe σ2 vs = σ0 ∧ tt σ2 H2 fun b H3 => if b = true then Bd Nx σ2 H3 else Nx H3)
theorem vm_clause {Y : Cx} {pins : List (Addr × Obj)} {R : Result → Shared → Prop} {s : Shared} {H : Hp} {e tg : Expr} {k : Nat} {p : Pos} {ifs : List Expr} {B : Sem Fin → Sem Fin} {acc : Value} {fp : List Addr} {it : Addr} {tn : Nat → Heap → Prop} {J : It} {g : TG} {tt : TT} {vs : List Nat} {σ0 : St}
    {W : Nat → Nat → Hp → Prop} {Fn : Hp → Prop} {Bd : (Hp → Prop) → St → Hp → Prop} {m0 : Nat} (hc : Y.calm = true) (hx : Y.xe = fun _ _ => False) (hq : (Code.compLoop e k (.ref it) acc Y.env).quiet = true) (hu : Y.A.under (.compLoop e k (.ref it) acc Y.env) = Y.A)
    (hd : (model Y.prog Y.w).den (.compLoop e k (.ref it) acc Y.env) = (compTurn e k (.ref it) acc Y.env).onRaise (fun x => do noteFrame x Y.env; theTreesLotGoes x)) (eq : compTurn e k (.ref it) acc Y.env = vmTurn e k p tg ifs B (.ref it) acc Y.env)
    (T : Turn Y.prog Y.w Y.K tg J fp it tn) (pg : PG Y tg g) (pt : PTs Y ifs tt) (hst : ∀ σ' s' H', Inv Y pins σ' H' s' → (∀ b ∈ fp, H' b = none) → ∀ b ∈ fp, FpOk Y pins H' b) (turn : VmGo J g tt vs σ0 W Fn Bd)
    (body : ∀ (m : Nat) (Nx : Hp → Prop) (σ2 : St) (H3 : Hp) (s3 : Shared) (pl : List (Addr × Obj)), Inv Y (pins ++ pl) σ2 H3 s3 → wipe σ2 vs = σ0 → Bd Nx σ2 H3 →
      (∀ σ' s' H', Inv Y (pins ++ pl) σ' H' s' → σ0.length = σ'.length → (∀ (j : Nat) v, σ0[j]? = some (some v) → σ'[j]? = some (some v)) → Nx H' → ∃ m', m' < m ∧ VmSt Y pins σ0 fp tn W m' s') →
      wpAny (model Y.prog Y.w) Y.A (B (again (.compLoop e k (.ref it) acc Y.env))) (vmAft R (.compLoop e k (.ref it) acc Y.env) m (VmSt Y pins σ0 fp tn W)) (vmE (model Y.prog Y.w) Y.A Y.env R) s3)
    (done : ∀ s' H', Inv Y pins σ0 H' s' → Fn H' → R (.ok .next) s') (I : Inv Y pins σ0 H s) (t0 : tn 0 s.heap) (n0 : ∀ b ∈ fp, H b = none) (w0 : W 0 m0 H) :
    codeAny (model Y.prog Y.w) Y.A (.compLoop e k (.ref it) acc Y.env) R s := by
  refine vm_loop hq hu hd eq (VmSt Y pins σ0 fp tn W) ?_ m0 ⟨0, H, I, t0, n0, w0⟩
  rintro m s1 ⟨i, H1, I1, t1, n1, w1⟩
  rcases turn i m H1 w1 with ⟨hstop, fn⟩ | ⟨go, Nx, next, step⟩
  · refine thnF (T.done Y rfl rfl rfl hc i pins s1 σ0 H1 (fun _ _ => False) I1 (hst _ _ _ I1 n1) t1 hstop) fun r s2 ⟨er, I2⟩ => ?_
    rw [er]
    exact done s2 H1 I2 fn
  · refine thnF (T.item Y rfl rfl rfl hc i pins s1 σ0 H1 (fun _ _ => False) I1 (hst _ _ _ I1 n1) t1 go) fun r s2 ⟨u, er, h2⟩ => ?_
    rw [er]
    refine thnF h2 fun _ s3 ⟨x, H3, I3, rx, y3, t3, n3⟩ => ?_
    have I3p := I3.pinned (hst _ _ _ I3 n3) (T.obj _ _ t3)
    have a4 := pg.run _ s3 σ0 H3 x u _ I3p rx (step x H3 y3)
    rw [hx] at a4
    refine thnF a4 fun _ s4 ⟨σ4, H4, I4, k4, q4⟩ => ?_
    have a5 := pt.run _ s4 σ4 H4 _ I4 q4
    rw [hx] at a5
    refine thnF a5 fun b s5 ⟨H5, I5, q5⟩ => ?_
    have back : ∀ σ' s' H', Inv Y (pins ++ pinsAt fp s3.heap) σ' H' s' → σ0.length = σ'.length → (∀ (j : Nat) v, σ0[j]? = some (some v) → σ'[j]? = some (some v)) → Nx H' → ∃ m', m' < m ∧ VmSt Y pins σ0 fp tn W m' s' := fun σ' s' H' I' hl hk nx => by
      obtain ⟨m', lt, w'⟩ := next H' nx
      have there : ∀ b ∈ fp, ∀ o, s3.heap.get? b = some o → s'.heap.get? b = some o ∧ H' b = none := fun b hb o eo =>
        ⟨(I'.pin (b, o) (List.mem_append_right _ (List.mem_append_right _ (mem_pinsAt hb eo)))).1, (I'.pin (b, o) (List.mem_append_right _ (List.mem_append_right _ (mem_pinsAt hb eo)))).2.1⟩
      exact ⟨m', lt, i + 1, H', I'.unpinned.weak hl hk, T.keep _ _ _ t3 fun b hb o eo => (there b hb o eo).1, fun b hb => let ⟨o, eo, _⟩ := T.obj _ _ t3 b hb; (there b hb o eo).2, w'⟩
    have hl4 : σ0.length = σ4.length := by rw [← k4, wipe_length]
    have hk4 : ∀ (j : Nat) v, σ0[j]? = some (some v) → σ4[j]? = some (some v) := fun j v ev => by
      rw [← k4] at ev
      exact (wipe_some ev).1
    cases b with
    | false =>
      simp only [Bool.false_eq_true, if_false] at q5 ⊢
      exact back σ4 s5 H5 I5 hl4 hk4 q5
    | true =>
      simp only [if_true] at q5 ⊢
      exact body m Nx σ4 H5 s5 _ I5 k4 q5 back
end L2
set_option Elab.async false
set_option maxRecDepth 100000
set_option maxHeartbeats 4000000
set_option linter.all false
set_option autoImplicit false
/-! {k: v for .. for ..} -/
namespace L2
open PySem PySem.Spec PyProof.Rows
def tVmDc2 (wi : TI) (g : TG) (tt : TT) (wi1 : TI) (g1 : TG) (tt1 : TT) (tk tv : TE) (vs vs1 : List Nat) : TE := fun σ H Q => wi σ H fun J H1 => ∀ D, H1 D = none → ∃ W : Nat → Nat → Hp → Prop, (∃ m, W 0 m (upd H1 D (.dK []))) ∧
  VmGo J g tt vs (wipe σ vs) W (fun H => Q (.ref D) H) fun Nx σ2 H3 => wi1 σ2 H3 fun J1 H4 => ∃ W1 : Nat → Nat → Hp → Prop, (∃ m, W1 0 m H4) ∧
    VmGo J1 g1 tt1 vs1 (wipe σ2 vs1) W1 Nx fun Nx1 σ3 H6 => tk σ3 H6 fun y H7 => tv σ3 H7 fun z H8 => ∃ kvs k, y = kV k ∧ H8 D = some (.dK kvs) ∧ kvs.length < sizeLine ∧ Nx1 (upd H8 D (.dK (putK kvs k z)))
section
variable {X : Cx} {kx vx tg iter tg1 iter1 : Expr} {ifs ifs1 : List Expr} {scope : Scope} {own : List (Str × Nat)} {vs1 : List Nat} {pos : Pos} {wi wi1 : TI} {g g1 : TG} {tt tt1 : TT} {tk tv : TE}
/-- within the block: both loops -/
theorem vm_dc2_blk {Y : Cx} {R : Result → Shared → Prop} {s : Shared} {σ : St} {H : Hp} {D : Addr} {fp : List Addr} {it : Addr} {tn : Nat → Heap → Prop} {J : It} {vs : List Nat} {W : Nat → Nat → Hp → Prop} {Fn : Hp → Prop} {m0 : Nat} (hc : Y.calm = true) (hx : Y.xe = fun _ _ => False)
    (T : Turn Y.prog Y.w Y.K tg J fp it tn) (pg : PG Y tg g) (pt : PTs Y ifs tt) (pi1 : PI Y tg1 iter1 wi1) (pg1 : PG Y tg1 g1) (pt1 : PTs Y ifs1 tt1) (pk : PE Y kx tk) (pv : PE Y vx tv) (hs1 : ∀ x, foldedSetIterable iter1 Y.env x = pure x)
    (hst : ∀ σ' s' H', Inv Y [] σ' H' s' → (∀ b ∈ fp, H' b = none) → ∀ b ∈ fp, FpOk Y [] H' b) (hv : ∀ i ∈ vs1, i ∈ vs)
    (turn : VmGo J g tt vs (wipe σ vs) W Fn fun Nx σ2 H3 => wi1 σ2 H3 fun J1 H4 => ∃ W1 : Nat → Nat → Hp → Prop, (∃ m, W1 0 m H4) ∧
      VmGo J1 g1 tt1 vs1 (wipe σ2 vs1) W1 Nx fun Nx1 σ3 H6 => tk σ3 H6 fun y H7 => tv σ3 H7 fun z H8 => ∃ kvs k, y = kV k ∧ H8 D = some (.dK kvs) ∧ kvs.length < sizeLine ∧ Nx1 (upd H8 D (.dK (putK kvs k z))))
    (done : ∀ s' H', Inv Y [] (wipe σ vs) H' s' → Fn H' → R (.ok .next) s') (I : Inv Y [] (wipe σ vs) H s) (t0 : tn 0 s.heap) (n0 : ∀ b ∈ fp, H b = none) (w0 : W 0 m0 H) :
    codeAny (model Y.prog Y.w) Y.A (.compLoop (.DictComp kx vx [⟨tg, iter, ifs, 0⟩, ⟨tg1, iter1, ifs1, 0⟩] scope pos) 0 (.ref it) (.ref D) Y.env) R s := by
  refine vm_clause hc hx rfl rfl rfl (vm_dc_out kx vx tg iter tg1 iter1 ifs ifs1 scope pos (.ref it) (.ref D) Y.env) T pg pt hst turn (fun m Nx σ2 H3 s3 pl I3 k3 q3 back => ?_) done I t0 n0 w0
  refine vm_inner hs1 ?_
  have a := pi1.run _ s3 σ2 H3 _ I3 q3
  rw [hx] at a
  refine thnF a fun xv s4 h4 => thnF h4 fun itv s5 h5 => ?_
  obtain ⟨it1, fp1, tn1, J1, H5, e1, I5, T1, t5, f5, W1, ⟨m1, w1⟩, turn1⟩ := h5
  subst e1
  have kept : ∀ (j : Nat) v, (wipe σ vs)[j]? = some (some v) → (wipe σ2 vs1)[j]? = some (some v) := fun j v ev => by
    rw [← k3] at ev
    obtain ⟨e2, e3⟩ := wipe_some ev
    rw [wipe_out fun z => e3 (hv j z)]
    exact e2
  have lens : (wipe σ vs).length = (wipe σ2 vs1).length := by rw [← k3, wipe_length, wipe_length]
  have inner : codeAny (model Y.prog Y.w) Y.A (.compLoop (.DictComp kx vx [⟨tg, iter, ifs, 0⟩, ⟨tg1, iter1, ifs1, 0⟩] scope pos) 1 (.ref it1) (.ref D) Y.env) (fun r s' => match r with
      | .ok _ => ∃ m', m' < m ∧ VmSt Y [] (wipe σ vs) fp tn W m' s'
      | .error _ => False) s5 := by
    refine vm_clause hc hx rfl rfl rfl (vm_dc_in kx vx tg iter tg1 iter1 ifs ifs1 scope pos (.ref it1) D Y.env) T1 pg1 pt1 (fun σ' s' H' I' n' b hb => ⟨n' b hb, (f5 b hb).2⟩) turn1 (fun m' Nx1 σ6 H6 s6 pl1 I6 k6 q6 back1 => ?_) (fun s' H' I' nx => back _ s' H' I' lens kept nx)
      (I5.weak (wipe_length _ _) fun j v ev => (wipe_some ev).1) t5 (fun b hb => (f5 b hb).1) w1
    refine vm_emit ?_
    have b1 := pk.run _ s6 σ6 H6 _ I6 q6
    rw [hx] at b1
    refine thnF b1 fun kv s7 ⟨y, H7, I7, r7, q7⟩ => ?_
    have b2 := pv.run _ s7 σ6 H7 _ I7 q7
    rw [hx] at b2
    refine thnF b2 fun vv s8 ⟨z, H8, I8, r8, kvs, kk, ek, hD8, hz8, nx⟩ => ?_
    subst ek
    refine d_dictSet I8 hD8 hz8 r7 r8 fun s9 I9 => back1 σ6 s9 _ I9 ?_ ?_ nx
    · rw [← k6, wipe_length]
    · intro j v ev
      rw [← k6] at ev
      exact (wipe_some ev).1
  exact vm_start rfl rfl rfl rfl inner (T1.self Y.A 0 s5 _ _ t5 inner)
theorem vm_pe_dc2 (hc : X.calm = true) (hN : X.N.Nodup) (hi : PI X tg iter wi) (ok : BlkOk X.N X.env.scope scope own) (hv : ∀ i ∈ vs1, i ∈ own.map (·.2))
    (hb : ∀ (s : Shared) (H : Hp) (C : Addr) (cl : List (Str × Addr)) (fp : List Addr), PG (X.blk s H scope (compEnvC scope cl C X.env) fp) tg g ∧ PTs (X.blk s H scope (compEnvC scope cl C X.env) fp) ifs tt ∧ PI (X.blk s H scope (compEnvC scope cl C X.env) fp) tg1 iter1 wi1 ∧
      PG (X.blk s H scope (compEnvC scope cl C X.env) fp) tg1 g1 ∧ PTs (X.blk s H scope (compEnvC scope cl C X.env) fp) ifs1 tt1 ∧ PE (X.blk s H scope (compEnvC scope cl C X.env) fp) kx tk ∧ PE (X.blk s H scope (compEnvC scope cl C X.env) fp) vx tv)
    (hs : ∀ x, foldedSetIterable iter X.env x = pure x := by intro _; rfl) (hs1 : ∀ env x, foldedSetIterable iter1 env x = pure x := by intro _ _; rfl) :
    PE X (.DictComp kx vx [⟨tg, iter, ifs, 0⟩, ⟨tg1, iter1, ifs1, 0⟩] scope pos) (tVmDc2 wi g tt wi1 g1 tt1 tk tv (own.map (·.2)) vs1) := by
  refine ⟨fun pins s σ H Q I h => ?_⟩
  rw [arm_eval_DictComp]
  have cells : ∀ y ∈ scope.names, y.2 = .free → ∃ c, X.env.cells.lookup y.1 = some c := fun y hy e =>
    (ok.free y hy e).elim (fun z => I.ok.has _ (.inl z)) fun z => I.ok.has _ (.inr z)
  refine wpAny_comprehension_free (use := none) rfl hs (closure_ok cells) ok.kind (fun y hy e => (ok.uniq y hy).trans (by rw [e])) (thn (hi.run pins s σ H _ I h) fun v1 s1 a1 => thn a1 fun v2 s2 a2 => ?_)
  obtain ⟨it, fp, tn, J, H2, rfl, I2, T, t2, f2, q⟩ := a2
  refine wpAny_newObj_type (newEnv_comp ?_)
  have fresh : H2 s2.heap.objs.size = none := I2.hok.fresh (Nat.le_refl _)
  obtain ⟨W, ⟨m0, w0⟩, turn⟩ := q _ fresh
  have I3 : Inv X pins σ (upd H2 s2.heap.objs.size (.dK [])) { s2 with heap := s2.heap.push { cls := .type "dict", data := .dict #[] } } :=
    I2.laid (t' := s2.toks) (fun b o e => Heap.get?_push_of_some _ e) (Nat.le_refl _) (dk_empty s2.heap I2.big)
  generalize hD : s2.heap.objs.size = D at I3 w0 turn fresh ⊢
  generalize hs3 : ({ s2 with heap := s2.heap.push { cls := .type "dict", data := .dict #[] } } : Shared) = s3 at I3 ⊢
  have h3 : s3.heap = s2.heap.push { cls := .type "dict", data := .dict #[] } := by rw [← hs3]
  have f3 : ∀ b ∈ fp, FpOk X pins (upd H2 D (.dK [])) b ∧ b < s3.heap.objs.size := fun b hb => by
    obtain ⟨o, eo, _⟩ := T.obj _ _ t2 b hb
    have lt := Heap.lt_size eo
    exact ⟨⟨(upd_ne (by rw [← hD]; exact Nat.ne_of_lt lt)).trans (f2 b hb).1, (f2 b hb).2⟩, by rw [h3, Heap.size_push]; exact Nat.lt_succ_of_lt lt⟩
  have t3 : tn 0 s3.heap := T.keep _ _ _ t2 fun b _ o e => by rw [h3]; exact Heap.get?_push_of_some _ e
  have I4 := block_start I3 ok hN f3
  obtain ⟨pg, pt, pi1, pg1, pt1, pk, pv⟩ := hb s3 (upd H2 D (.dK [])) s3.heap.objs.size (cellsFrom (s3.heap.objs.size + 1) scope.names (cloFrom X.env.cells scope.names [])) fp
  show codeAny _ _ (.compStart _ 0 (.ref it) (.ref D) (compEnvC scope (cellsFrom (s3.heap.objs.size + 1) scope.names (cloFrom X.env.cells scope.names [])) s3.heap.objs.size X.env)) (compPost (model X.prog X.w) X.A X.xe none (EP X pins σ Q) (.ref D) s3.heap.objs.size)
    { s3 with heap := pushCells (s3.heap.push { cls := .type "dict", data := .dict #[] }) scope.names }
  generalize hce : compEnvC scope (cellsFrom (s3.heap.objs.size + 1) scope.names (cloFrom X.env.cells scope.names [])) s3.heap.objs.size X.env = ce at I4 pg pt pi1 pg1 pt1 pk pv ⊢
  have cL : ce.locals = s3.heap.objs.size := by subst hce; rfl
  have loop := vm_dc2_blk (Y := X.blk s3 (upd H2 D (.dK [])) scope ce fp) (R := compPost (model X.prog X.w) X.A X.xe none (EP X pins σ Q) (.ref D) s3.heap.objs.size) (s := { s3 with heap := pushCells (s3.heap.push { cls := .type "dict", data := .dict #[] }) scope.names }) (kx := kx) (vx := vx) (iter := iter) (scope := scope) (pos := pos)
    hc rfl T pg pt pi1 pg1 pt1 pk pv (hs1 ce) (fun σ' s' H' I' n' b hb => ⟨n' b hb, (I'.ok.exf b hb).1, I'.ok.exfs b hb, .inl hb, fun x c e => (I'.ok.exf b hb).2 x c e, fun p hp => nomatch hp⟩) hv turn
    (fun s' H' I' fn => ?_) I4 (T.keep _ _ _ t3 fun b _ o e => pushCells_keeps _ _ _ _ (Heap.get?_push_of_some _ e)) (fun b hb => (f3 b hb).1.1) w0
  · exact vm_start rfl rfl rfl rfl loop (T.self X.A 0 _ _ _ (T.keep _ _ _ t3 fun b _ o e => pushCells_keeps _ _ _ _ (Heap.get?_push_of_some _ e)) loop)
  · have I7 : Inv X pins σ H' s' := I3.call' (ch := fp) I'.os I'.base I'.hok I'.bare fun b hb => ⟨(f3 b hb).1.2.2.2.1, (f3 b hb).1.2.1, (f3 b hb).1.2.2.2.2.1, (f3 b hb).1.2.2.2.2.2⟩
    have gone : H' s3.heap.objs.size = none := by
      rw [← cL]
      exact I'.free
    obtain ⟨mm, hn, _⟩ := I'.loc
    have hn : s'.heap.Ns ce.locals mm := hn
    rw [cL] at hn
    obtain ⟨o0, o1, o2, o3, o4, o5⟩ := I3.fpOk (Nat.le_refl _) gone
    exact ⟨mm, hn, fun h' sb => ⟨.ref D, H', I7.turned (t' := s'.toks) (fun b o hb e => (sb.2 b hb).trans e) o0 o1 o3 o4 o5, rfl, fn⟩⟩
end
end L2
set_option Elab.async false
set_option maxRecDepth 100000
set_option maxHeartbeats 4000000
set_option linter.all false
set_option autoImplicit false
/-! A clause of a comprehension by values; two fors. -/
namespace VM
open PySem L2
noncomputable section
def clL {β : Type} (g : D → Rho → Option Rho) (ft : M Bool) (bd : Rho → β → Sto → Option (β × Sto)) (ck : Option (Nat × List D)) (ρ : Rho) : List D → β → Sto → Option (β × Sto)
  | [], b, s => if chk ck s = true then some (b, s) else none
  | d :: ds, b, s => if chk ck s = true then match g d ρ with
      | some ρ1 => match ft ρ1 s with
        | some (.ok true s1) => match bd ρ1 b s1 with
          | some (b2, s2) => clL g ft bd ck ρ ds b2 s2
          | none => none
        | some (.ok false s1) => clL g ft bd ck ρ ds b s1
        | _ => none
      | none => none
    else none
theorem wipe_wipe (vs : List Nat) (σ0 : L2.St) : L2.wipe (L2.wipe σ0 vs) vs = L2.wipe σ0 vs := by
  have gen : ∀ (us : List Nat), (∀ u ∈ us, u ∈ vs) → L2.wipe (L2.wipe σ0 us) vs = L2.wipe σ0 vs := by
    intro us
    induction us with
    | nil => intro _; rfl
    | cons u us ih =>
      intro hu
      show L2.wipe ((L2.wipe σ0 us).set u none) vs = _
      rw [wipe_in (hu u List.mem_cons_self)]
      exact ih fun w hw => hu w (List.mem_cons_of_mem _ hw)
  exact gen vs fun _ z => z
theorem ev_go {β : Type} {C : Cn} {J : It} {tg : TG} {tt : TT} {g : D → Rho → Option Rho} {ft : M Bool} {bd : Rho → β → Sto → Option (β × Sto)} {is vs : List Nat} {z : Src} {ws1 : Ws} {H1 : Hp} {σ : L2.St} {ρ : Rho} {In : β → Sto → Ws → Hp → Prop} {Bd : (Hp → Prop) → L2.St → Hp → Prop} {Fn : Hp → Prop} {bE : β} {sE : Sto}
    (hg : GOk C tg g is) (ht : EvT C.in0 tt ft) (inT : ∀ b s ws H, In b s ws H → Stq ws1 H1 ws H ∧ Sta C.T ws H s) (inS : ∀ b s s' ws H ws' H', In b s ws H → Stp ws H ws' H' → Sta C.T ws' H' s' → In b s' ws' H')
    (wk : Wk C.T J ws1 H1 z) (N : EnvOk C.T C.x ws1 H1 σ ρ) (hv : ∀ i ∈ is, i ∈ vs) (hvx : ∀ i ∈ vs, nsl C.x i)
    (body : ∀ ws H s σ2 ρ1 b b' s' (Nx : Hp → Prop), In b s ws H → EnvOk C.T C.x ws H σ2 ρ1 → bd ρ1 b s = some (b', s') → (∀ ws' H', In b' s' ws' H' → Nx H') → Bd Nx σ2 H)
    (fin : ∀ ws H, In bE sE ws H → Fn H) :
    ∃ W : Nat → Nat → Hp → Prop, (∀ b0 s0 ws0 H0, In b0 s0 ws0 H0 → clL g ft bd z.2 (wipeD ρ vs) z.1 b0 s0 = some (bE, sE) → ∃ m, W 0 m H0) ∧ VmGo J tg tt vs (L2.wipe σ vs) W Fn Bd := by
  refine ⟨fun i m H => m = z.1.length - i ∧ i ≤ z.1.length ∧ ∃ b s ws, In b s ws H ∧ clL g ft bd z.2 (wipeD ρ vs) (z.1.drop i) b s = some (bE, sE), fun b0 s0 ws0 H0 h0 hl => ⟨_, rfl, Nat.zero_le _, b0, s0, ws0, h0, by rw [List.drop_zero]; exact hl⟩, ?_⟩
  rintro i m H ⟨rfl, hi, b, s, ws, hin, hl⟩
  obtain ⟨t, S⟩ := inT _ _ _ _ hin
  by_cases lt : i < z.1.length
  · rw [List.drop_eq_getElem_cons lt] at hl
    unfold clL at hl
    split at hl
    · rename_i ck
      split at hl
      · rename_i ρ1 e1
        obtain ⟨go, yl⟩ := wk.step i z.1[i] ws H s t S ck (List.getElem?_eq_getElem lt)
        refine .inr ⟨go, fun H' => ∃ b s ws, In b s ws H' ∧ clL g ft bd z.2 (wipeD ρ vs) (z.1.drop (i + 1)) b s = some (bE, sE), fun H' h' => ⟨_, by omega, rfl, lt, h'⟩, fun x H3 y => ?_⟩
        obtain ⟨t3, S3, r3⟩ := yl x H3 y
        have NE : EnvOk C.T C.x ws H3 (L2.wipe σ vs) (wipeD ρ vs) := ((N.wipe vs hvx).stq t).stp t3
        refine hg ws H3 _ _ _ x ρ1 _ NE r3 e1 fun σ2 N2 w2 => ⟨by rw [w2 vs hv, wipe_wipe], ?_⟩
        split at hl
        · rename_i s3 e3
          refine ht ws H3 s σ2 ρ1 _ _ S3 N2 e3 True.intro fun d0 s0 e0 ws3 H4 t4 S4 => ?_
          cases e0
          rw [if_pos rfl]
          split at hl
          · rename_i b2 s2 e4
            exact body ws3 H4 s3 σ2 ρ1 b b2 s2 _ (inS _ _ _ _ _ _ _ (inS _ _ _ _ _ _ _ hin t3 S3) t4 S4) (N2.stp t4) e4 fun ws' H' h' => ⟨b2, s2, ws', h', hl⟩
          · cases hl
        · rename_i s3 e3
          refine ht ws H3 s σ2 ρ1 _ _ S3 N2 e3 True.intro fun d0 s0 e0 ws3 H4 t4 S4 => ?_
          cases e0
          rw [if_neg Bool.false_ne_true]
          exact ⟨b, s3, ws3, inS _ _ _ _ _ _ _ (inS _ _ _ _ _ _ _ hin t3 S3) t4 S4, hl⟩
        · cases hl
      · cases hl
    · cases hl
  · have e : i = z.1.length := by omega
    subst e
    rw [List.drop_length] at hl
    unfold clL at hl
    split at hl
    · rename_i ck
      cases hl
      exact .inl ⟨wk.stop ws H _ t S ck, fin ws H hin⟩
    · cases hl
end
end VM
set_option Elab.async false
set_option maxRecDepth 100000
set_option maxHeartbeats 4000000
set_option linter.all false
set_option autoImplicit false
/-! {k: v for .. for ..} by values. -/
namespace VM
open PySem L2
noncomputable section
section
variable {T : Kt} {ws : Ws} {H : Hp} {s : Sto} {p : Addr} {o : HO}
/-- a new object that is hidden -/
abbrev Ws.hide (ws : Ws) (p : Addr) : Ws := ⟨ws.own, p :: ws.hid⟩
theorem Sta.stq_hide (S : Sta T ws H s) (h : H p = none) : Stp ws H (ws.hide p) (upd H p o) :=
  ⟨List.prefix_refl _, fun _ z => List.mem_cons_of_mem _ z, fun a u e => by rw [mask_hide h]; exact e, fun a z => upd_ne fun e => (S.fresh h).2 (e ▸ z)⟩
theorem Sta.hide (S : Sta T ws H s) (h : H p = none) : Sta T (ws.hide p) (upd H p o) s := by
  have f := S.fresh h
  refine ⟨S.nd, S.len, fun a z => ?_, fun a z => ?_, fun l a so e1 e2 => ?_⟩
  · rcases List.mem_cons.mp z with e | z
    · rw [e]; exact f.1
    · exact S.dis a z
  · by_cases e : a = p
    · rw [e]; exact ⟨_, upd_same⟩
    · obtain ⟨u, q⟩ := S.hid a ((List.mem_cons.mp z).resolve_left e)
      exact ⟨u, by rw [upd_ne e]; exact q⟩
  · obtain ⟨u, k1, k2⟩ := S.own l a so e1 e2
    exact ⟨u, by rw [upd_ne (ne_of_none k1 h)]; exact k1, k2.stp (S.stq_hide h)⟩
/-- a hidden object is written -/
theorem mask_hidden (h : p ∈ ws.hid) : mask ws (upd H p o) = mask ws H := by
  funext a
  unfold mask
  by_cases e : a = p
  · subst e
    rw [if_pos (.inr h), if_pos (.inr h)]
  · rw [upd_ne e]
theorem Sta.hput (S : Sta T ws H s) (h : p ∈ ws.hid) : Sta T ws (upd H p o) s := by
  refine ⟨S.nd, S.len, S.dis, fun a z => ?_, fun l a so e1 e2 => ?_⟩
  · by_cases e : a = p
    · rw [e]; exact ⟨_, upd_same⟩
    · rw [upd_ne e]; exact S.hid a z
  · obtain ⟨u, k1, k2⟩ := S.own l a so e1 e2
    have ne : a ≠ p := fun e => S.dis p h (e ▸ List.mem_of_getElem? e1)
    exact ⟨u, by rw [upd_ne ne]; exact k1, by rw [mask_hidden h]; exact k2⟩
/-- it is frozen from now on -/
abbrev Ws.free (ws : Ws) (p : Addr) : Ws := ⟨ws.own, ws.hid.filter fun a => decide (a ≠ p)⟩
theorem free_mem {a : Addr} (h : a ∈ (ws.free p).hid) : a ∈ ws.hid ∧ a ≠ p := by
  obtain ⟨q1, q2⟩ := List.mem_filter.mp h
  exact ⟨q1, of_decide_eq_true q2⟩
theorem free_mono (a : Addr) (u : HO) (h : mask ws H a = some u) : mask (ws.free p) H a = some u := by
  obtain ⟨n, q⟩ := mask_some h
  rw [mask_of (ws := ws.free p) ⟨n.1, fun w => n.2 (free_mem w).1⟩]
  exact q
theorem Sta.free (S : Sta T ws H s) : Sta T (ws.free p) H s :=
  ⟨S.nd, S.len, fun a w => S.dis a (free_mem w).1, fun a w => S.hid a (free_mem w).1, fun l a so e1 e2 =>
    let ⟨u, k1, k2⟩ := S.own l a so e1 e2
    ⟨u, k1, SoRel.mono (ws := ws) (ws' := ws.free p) (List.prefix_refl _) free_mono k2⟩⟩
theorem Sta.free_at (S : Sta T ws H s) (h : p ∈ ws.hid) (e : H p = some o) : mask (ws.free p) H p = some o := by
  rw [mask_of (ws := ws.free p) ⟨S.dis p h, fun w => (free_mem w).2 rfl⟩]
  exact e
/-- back from within: p was made within -/
theorem stp_free {ws1 : Ws} {H1 : Hp} (t : Stp ws1 H1 ws H) (n : p ∉ ws1.hid) : Stp ws1 H1 (ws.free p) H :=
  ⟨t.pre, fun a w => List.mem_filter.mpr ⟨t.hid a w, decide_eq_true fun e => n (e ▸ w)⟩, fun a u w => free_mono a u (t.fz a u w), t.hk⟩
end
/-- one item of the second clause -/
def dcB (fk fv : M D) (ρ : Rho) (b : List D × List D) (s : Sto) : Option ((List D × List D) × Sto) := match fk ρ s with
  | some (.ok y s1) => match fv ρ s1 with
    | some (.ok x s2) => (keyK y).bind fun k => if b.1.length < LIM then some (kputD k x b.1 b.2, s2) else none
    | _ => none
  | _ => none
/-- one item of the first clause -/
def cl1 {β : Type} (fi1 : M Src) (g1 : D → Rho → Option Rho) (ft1 : M Bool) (bd : Rho → β → Sto → Option (β × Sto)) (vs1 : List Nat) (ρ : Rho) (b : β) (s : Sto) : Option (β × Sto) := match fi1 ρ s with
  | some (.ok z s1) => clL g1 ft1 bd z.2 (wipeD ρ vs1) z.1 b s1
  | _ => none
def fDc2 (fi : M Src) (g : D → Rho → Option Rho) (ft : M Bool) (fi1 : M Src) (g1 : D → Rho → Option Rho) (ft1 : M Bool) (fk fv : M D) (vs vs1 : List Nat) : M D := bnd fi fun z => fun ρ s =>
  match clL g ft (cl1 fi1 g1 ft1 (dcB fk fv) vs1) z.2 (wipeD ρ vs) z.1 ([], []) s with
  | some (b, s') => some (.ok (.dct false b.1 b.2) s')
  | none => none
/-- the dict that is made, hidden -/
def DIn (T : Kt) (p : Addr) (ws1 : Ws) (H1 : Hp) (b : List D × List D) (s : Sto) (ws : Ws) (H : Hp) : Prop := p ∈ ws.hid ∧ Stq ws1 H1 ws H ∧ Sta T ws H s ∧ ∃ kvs, H p = some (.dK kvs) ∧ b.1 = kvs.map (fun q => keyD q.1) ∧ Reps T ws (mask ws H) b.2 (kvs.map (·.2))
theorem DIn.go {T : Kt} {p : Addr} {ws1 : Ws} {H1 : Hp} {b : List D × List D} {s s' : Sto} {ws ws' : Ws} {H H' : Hp} (h : DIn T p ws1 H1 b s ws H) (t : Stp ws H ws' H') (S : Sta T ws' H' s') : DIn T p ws1 H1 b s' ws' H' := by
  obtain ⟨h1, h2, _, kvs, h3, h4, h5⟩ := h
  exact ⟨t.hid _ h1, h2.trans t.q, S, kvs, (t.hk _ h1).trans h3, h4, h5.stp t⟩
theorem ev_dcB {C : Cn} {tk tv : TE} {fk fv : M D} {p : Addr} {ws1 ws : Ws} {H1 H : Hp} {s s' : Sto} {σ : L2.St} {ρ : Rho} {b b' : List D × List D} {Nx : Hp → Prop} (ek : EvS C.in0 tk fk) (ev : EvS C.in0 tv fv) (h : DIn C.T p ws1 H1 b s ws H) (N : EnvOk C.T C.x ws H σ ρ)
    (e : dcB fk fv ρ b s = some (b', s')) (q : ∀ ws' H', DIn C.T p ws1 H1 b' s' ws' H' → Stq ws H ws' H' → (∀ a ∈ ws.hid, a ≠ p → H' a = H a) → Nx H') :
    tk σ H fun y H7 => tv σ H7 fun z H8 => ∃ kvs k, y = kV k ∧ H8 p = some (.dK kvs) ∧ kvs.length < sizeLine ∧ Nx (upd H8 p (.dK (putK kvs k z))) := by
  unfold dcB at e
  split at e
  · rename_i yd s1 e1
    refine ek ws H s σ ρ _ _ h.2.2.1 N e1 True.intro fun d0 s0 e0 y ws2 H2 t2 S2 r2 => ?_
    cases e0
    split at e
    · rename_i xd s2 e2
      refine ev ws2 H2 s1 σ ρ _ _ S2 (N.stp t2) e2 True.intro fun d0 s0 e0 z ws3 H3 t3 S3 r3 => ?_
      cases e0
      obtain ⟨k, hk, e⟩ := Option.bind_eq_some_iff.mp e
      split at e
      · rename_i lt
        cases e
        obtain ⟨g1, g2, g3, kvs, g4, g5, g6⟩ := (h.go t2 S2).go t3 S3
        obtain ⟨p1, p2⟩ := kputD_ok (k := k) r3 g6
        rw [g5] at lt
        have tt := t2.trans t3
        refine ⟨kvs, k, keyK_rep (r2.stp t3) hk, g4, lim_lt (by simpa using lt), q ws3 _ ⟨g1, ⟨g2.pre, g2.hid, fun a u w => by rw [mask_hidden g1]; exact g2.fz a u w⟩, g3.hput g1, _, upd_same, ?_, ?_⟩ ⟨tt.pre, tt.hid, fun a u w => by rw [mask_hidden g1]; exact tt.fz a u w⟩ fun a w ne => (upd_ne ne).trans (tt.hk a w)⟩
        · rw [g5]; exact p1
        · rw [g5, mask_hidden g1]; exact p2
      · cases e
    · cases e
  · cases e
theorem ev_dc2 {C : Cn} {wi wi1 : TI} {tg tg1 : TG} {tt tt1 : TT} {tk tv : TE} {fi fi1 : M Src} {g g1 : D → Rho → Option Rho} {ft ft1 : M Bool} {fk fv : M D} {is is1 vs vs1 : List Nat} (hi : EvI C wi fi) (hg : GOk C tg g is) (ht : EvT C.in0 tt ft) (hi1 : EvI C.in0 wi1 fi1) (hg1 : GOk C tg1 g1 is1) (ht1 : EvT C.in0 tt1 ft1)
    (ek : EvS C.in0 tk fk) (ev : EvS C.in0 tv fv) (hv : ∀ i ∈ is, i ∈ vs) (hv1 : ∀ i ∈ is1, i ∈ vs1) (hvx : ∀ i ∈ vs, nsl C.x i) (hvx1 : ∀ i ∈ vs1, nsl C.x i) : EvS C (tVmDc2 wi tg tt wi1 tg1 tt1 tk tv vs vs1) (fDc2 fi g ft fi1 g1 ft1 fk fv vs vs1) := by
  intro ws H s σ ρ R Q S N h xx q
  unfold fDc2 bnd at h
  split at h
  rotate_left
  · rename_i e s1 h1
    cases h
    exact hi ws H s σ ρ _ _ S N h1 xx fun z s' e => nomatch e
  · cases h
  rename_i z s1 h1
  dsimp only at h
  split at h
  · rename_i bE sE hl
    cases h
    refine hi ws H s σ ρ _ _ S N h1 True.intro fun z' s1' ez J ws1 H1 t1 S1 wk p hp => ?_
    cases ez
    have start : DIn C.T p ws1 H1 ([], []) s1 (ws1.hide p) (upd H1 p (.dK [])) := ⟨List.mem_cons_self, (S1.stq_hide hp).q, S1.hide hp, [], upd_same, rfl, rfl⟩
    -- what is more within: the hidden objects that were there stay
    let In : List D × List D → Sto → Ws → Hp → Prop := fun b s ws H => DIn C.T p ws1 H1 b s ws H ∧ ∀ a ∈ ws1.hid, H a = H1 a
    have pn : p ∉ ws1.hid := (S1.fresh hp).2
    have step : ∀ b s s' ws H ws' H', In b s ws H → Stp ws H ws' H' → Sta C.T ws' H' s' → In b s' ws' H' := fun b s s' ws H ws' H' h t S => ⟨h.1.go t S, fun a w => (t.hk a (h.1.2.1.hid a w)).trans (h.2 a w)⟩
    refine Exists.elim (ev_go (In := In) (Bd := fun Nx σ2 H3 => wi1 σ2 H3 fun J1 H4 => ∃ W1 : Nat → Nat → Hp → Prop, (∃ m, W1 0 m H4) ∧
      VmGo J1 tg1 tt1 vs1 (L2.wipe σ2 vs1) W1 Nx fun Nx1 σ3 H6 => tk σ3 H6 fun y H7 => tv σ3 H7 fun z H8 => ∃ kvs k, y = kV k ∧ H8 p = some (.dK kvs) ∧ kvs.length < sizeLine ∧ Nx1 (upd H8 p (.dK (putK kvs k z))))
      (Fn := fun H => Q (.ref p) H) (bd := cl1 fi1 g1 ft1 (dcB fk fv) vs1) (bE := bE) (sE := sE) hg ht (fun b s ws H h => ⟨h.1.2.1, h.1.2.2.1⟩) step wk (N.stp t1) hv hvx ?_ ?_) fun W hW => ⟨W, hW.1 _ _ _ _ ⟨start, fun a w => upd_ne fun e => pn (e ▸ w)⟩ hl, hW.2⟩
    · intro ws2 H2 s2 σ2 ρ1 b b' s' Nx hin N2 e nx
      unfold cl1 at e
      split at e
      · rename_i z1 s3 e3
        refine hi1 ws2 H2 s2 σ2 ρ1 _ _ hin.1.2.2.1 N2 e3 True.intro fun z' s' ez J1 ws3 H3 t3 S3 wk1 => ?_
        cases ez
        have in3 := step _ _ _ _ _ _ _ hin t3 S3
        refine Exists.elim (ev_go (In := fun b s ws H => In b s ws H ∧ Stq ws3 H3 ws H) (Bd := fun Nx1 σ3 H6 => tk σ3 H6 fun y H7 => tv σ3 H7 fun z H8 => ∃ kvs k, y = kV k ∧ H8 p = some (.dK kvs) ∧ kvs.length < sizeLine ∧ Nx1 (upd H8 p (.dK (putK kvs k z))))
          (Fn := Nx) (bd := dcB fk fv) (bE := b') (sE := s') hg1 ht1 (fun b s ws H h => ⟨h.2, h.1.1.2.2.1⟩) (fun b s s' ws H ws' H' h t S => ⟨step _ _ _ _ _ _ _ h.1 t S, h.2.trans t.q⟩) wk1 (N2.stp t3) hv1 hvx1 ?_ (fun ws H h => nx ws H h.1)) fun W1 hW => ⟨W1, hW.1 _ _ _ _ ⟨in3, (Stp.refl _ _).q⟩ e, hW.2⟩
        · intro ws4 H4 s4 σ4 ρ4 b4 b5 s5 Nx1 h4 N4 e4 nx1
          exact ev_dcB ek ev h4.1.1 N4 e4 fun ws' H' d t k => nx1 ws' H' ⟨⟨d, fun a w => (k a (h4.1.1.2.1.hid a w) fun e => pn (e ▸ w)).trans (h4.1.2 a w)⟩, h4.2.trans t⟩
      · cases e
    · intro ws2 H2 hin
      obtain ⟨⟨g1', g2, g3, kvs, g4, g5, g6⟩, g7⟩ := hin
      have t : Stp ws1 H1 (ws2.free p) H2 := stp_free ⟨g2.pre, g2.hid, g2.fz, g7⟩ pn
      refine q _ _ rfl (.ref p) (ws2.free p) H2 (t1.trans t) g3.free ⟨p, rfl, .inl ⟨rfl, kvs, g3.free_at g1' g4, g5, ?_⟩⟩
      exact Reps.mono (ws := ws2) (ws' := ws2.free p) (List.prefix_refl _) free_mono _ _ g6
  · cases h
end
end VM
set_option Elab.async false
set_option maxRecDepth 100000
set_option maxHeartbeats 4000000
set_option linter.all false
set_option autoImplicit false
/-! The rule of {k: v for .. for ..}. -/
namespace VM
open PySem L2
noncomputable section
theorem unify_I {ι : Type} {Y : ι → Cx} {C : Cn} {tg e : Expr} {f : M Src} (h : ∀ p, DI (Y p) C tg e f) : ∃ wi, (∀ p, PI (Y p) tg e wi) ∧ EvI C wi f := by
  have hT := fun p => Classical.choose_spec (h p).ex
  exact ⟨fun σ H R => ∀ p, Classical.choose (h p).ex σ H R, fun p => ⟨fun pins s σ H R I hw => (hT p).1.run pins s σ H R I (hw p)⟩, fun ws H s σ ρ r R S N h1 xx q p => (hT p).2 ws H s σ ρ r R S N h1 xx q⟩
section
variable {X : Cx} {C : Cn} {kx vx tg iter tg1 iter1 : Expr} {ifs ifs1 : List Expr} {scope : Scope} {own : List (Str × Nat)} {pos : Pos} {fi fi1 : M Src} {g g1 : D → Rho → Option Rho} {ft ft1 : M Bool} {fk fv : M D} {is is1 vs1 : List Nat}
theorem de_dc2 (hc : X.calm = true) (hN : X.N.Nodup) (hi : DI X C tg iter fi) (ok : BlkOk X.N X.env.scope scope own) (hv : ∀ i ∈ is, i ∈ own.map (·.2)) (hv1 : ∀ i ∈ is1, i ∈ vs1) (hvs : ∀ i ∈ vs1, i ∈ own.map (·.2))
    (hg : ∀ b : Blk, DG (b.cx X scope) C.in0 tg g is) (ht : ∀ b : Blk, DTs (b.cx X scope) C.in0 ifs ft) (hi1 : ∀ b : Blk, DI (b.cx X scope) C.in0 tg1 iter1 fi1) (hg1 : ∀ b : Blk, DG (b.cx X scope) C.in0 tg1 g1 is1) (ht1 : ∀ b : Blk, DTs (b.cx X scope) C.in0 ifs1 ft1)
    (hk : ∀ b : Blk, DE (b.cx X scope) C.in0 kx fk) (he : ∀ b : Blk, DE (b.cx X scope) C.in0 vx fv)
    (hvx : ∀ i ∈ own.map (·.2), nsl C.x i := by exact nsl_none)
    (hs : ∀ x, foldedSetIterable iter X.env x = pure x := by intro _; rfl) (hs1 : ∀ env x, foldedSetIterable iter1 env x = pure x := by intro _ _; rfl) :
    DE X C (.DictComp kx vx [⟨tg, iter, ifs, 0⟩, ⟨tg1, iter1, ifs1, 0⟩] scope pos) (fDc2 fi g ft fi1 g1 ft1 fk fv (own.map (·.2)) vs1) :=
  let ⟨_, pi, ei⟩ := hi.ex
  let ⟨_, pg, eg⟩ := unify_G (C := C.in0) (Y := fun b : Blk => b.cx X scope) hg
  let ⟨_, pt, et⟩ := unify_T (C := C.in0) (Y := fun b : Blk => b.cx X scope) ht
  let ⟨_, pi1, ei1⟩ := unify_I (C := C.in0) (Y := fun b : Blk => b.cx X scope) hi1
  let ⟨_, pg1, eg1⟩ := unify_G (C := C.in0) (Y := fun b : Blk => b.cx X scope) hg1
  let ⟨_, pt1, et1⟩ := unify_T (C := C.in0) (Y := fun b : Blk => b.cx X scope) ht1
  let ⟨_, pk, ek⟩ := unify_E (C := C.in0) (Y := fun b : Blk => b.cx X scope) hk
  let ⟨_, pv, ev⟩ := unify_E (C := C.in0) (Y := fun b : Blk => b.cx X scope) he
  ⟨_, vm_pe_dc2 hc hN pi ok hvs (fun s H Ca cl fp => ⟨pg ⟨s, H, Ca, cl, fp⟩, pt ⟨s, H, Ca, cl, fp⟩, pi1 ⟨s, H, Ca, cl, fp⟩, pg1 ⟨s, H, Ca, cl, fp⟩, pt1 ⟨s, H, Ca, cl, fp⟩, pk ⟨s, H, Ca, cl, fp⟩, pv ⟨s, H, Ca, cl, fp⟩⟩) hs hs1,
    ev_dc2 ei eg et ei1 eg1 et1 ek ev hv hv1 hvx fun i h => hvx i (hvs i h)⟩
end
end
end VM
set_option Elab.async false
set_option maxRecDepth 100000
set_option maxHeartbeats 4000000
set_option linter.all false
set_option autoImplicit false
/-! [e for .. for ..] by values. -/
namespace VM
open PySem L2
noncomputable section
/-- one item of the second clause -/
def lcB (fe : M D) (ρ : Rho) (b : List D) (s : Sto) : Option (List D × Sto) := match fe ρ s with
  | some (.ok y s1) => if b.length < LIM then some (b ++ [y], s1) else none
  | _ => none
def fLc2 (fi : M Src) (g : D → Rho → Option Rho) (ft : M Bool) (fi1 : M Src) (g1 : D → Rho → Option Rho) (ft1 : M Bool) (fe : M D) (vs vs1 : List Nat) : M D := bnd fi fun z => fun ρ s =>
  match clL g ft (cl1 fi1 g1 ft1 (lcB fe) vs1) z.2 (wipeD ρ vs) z.1 [] s with
  | some (b, s') => some (.ok (.lst b) s')
  | none => none
/-- the list that is made, hidden -/
def LIn (T : Kt) (p : Addr) (ws1 : Ws) (H1 : Hp) (b : List D) (s : Sto) (ws : Ws) (H : Hp) : Prop := p ∈ ws.hid ∧ Stq ws1 H1 ws H ∧ Sta T ws H s ∧ ∃ xs, H p = some (.lst xs) ∧ Reps T ws (mask ws H) b xs
theorem LIn.go {T : Kt} {p : Addr} {ws1 : Ws} {H1 : Hp} {b : List D} {s s' : Sto} {ws ws' : Ws} {H H' : Hp} (h : LIn T p ws1 H1 b s ws H) (t : Stp ws H ws' H') (S : Sta T ws' H' s') : LIn T p ws1 H1 b s' ws' H' := by
  obtain ⟨h1, h2, _, xs, h3, h5⟩ := h
  exact ⟨t.hid _ h1, h2.trans t.q, S, xs, (t.hk _ h1).trans h3, h5.stp t⟩
theorem ev_lcB {C : Cn} {te : TE} {fe : M D} {p : Addr} {ws1 ws : Ws} {H1 H : Hp} {s s' : Sto} {σ : L2.St} {ρ : Rho} {b b' : List D} {Nx : Hp → Prop} (ee : EvS C.in0 te fe) (h : LIn C.T p ws1 H1 b s ws H) (N : EnvOk C.T C.x ws H σ ρ)
    (e : lcB fe ρ b s = some (b', s')) (q : ∀ ws' H', LIn C.T p ws1 H1 b' s' ws' H' → Stq ws H ws' H' → (∀ a ∈ ws.hid, a ≠ p → H' a = H a) → Nx H') :
    te σ H fun y H7 => ∃ acc, H7 p = some (.lst acc) ∧ acc.length < sizeLine ∧ Nx (upd H7 p (.lst (acc ++ [y]))) := by
  unfold lcB at e
  split at e
  · rename_i yd s1 e1
    refine ee ws H s σ ρ _ _ h.2.2.1 N e1 True.intro fun d0 s0 e0 y ws2 H2 tt S2 r2 => ?_
    cases e0
    split at e
    · rename_i lt
      cases e
      obtain ⟨g1, g2, g3, xs, g4, g6⟩ := h.go tt S2
      refine ⟨xs, g4, lim_lt (by rw [← g6.length]; exact lt), q ws2 _ ⟨g1, ⟨g2.pre, g2.hid, fun a u w => by rw [mask_hidden g1]; exact g2.fz a u w⟩, g3.hput g1, _, upd_same, ?_⟩ ⟨tt.pre, tt.hid, fun a u w => by rw [mask_hidden g1]; exact tt.fz a u w⟩ fun a w ne => (upd_ne ne).trans (tt.hk a w)⟩
      rw [mask_hidden g1]
      exact g6.append ⟨y, [], rfl, r2, rfl⟩
    · cases e
  · cases e
theorem ev_lc2 {C : Cn} {wi wi1 : TI} {tg tg1 : TG} {tt tt1 : TT} {te : TE} {fi fi1 : M Src} {g g1 : D → Rho → Option Rho} {ft ft1 : M Bool} {fe : M D} {is is1 vs vs1 : List Nat} (hi : EvI C wi fi) (hg : GOk C tg g is) (ht : EvT C.in0 tt ft) (hi1 : EvI C.in0 wi1 fi1) (hg1 : GOk C tg1 g1 is1) (ht1 : EvT C.in0 tt1 ft1)
    (ee : EvS C.in0 te fe) (hv : ∀ i ∈ is, i ∈ vs) (hv1 : ∀ i ∈ is1, i ∈ vs1) (hvx : ∀ i ∈ vs, nsl C.x i) (hvx1 : ∀ i ∈ vs1, nsl C.x i) : EvS C (tLc2 wi tg tt wi1 tg1 tt1 te vs vs1) (fLc2 fi g ft fi1 g1 ft1 fe vs vs1) := by
  intro ws H s σ ρ R Q S N h xx q
  unfold fLc2 bnd at h
  split at h
  rotate_left
  · rename_i e s1 h1
    cases h
    exact hi ws H s σ ρ _ _ S N h1 xx fun z s' e => nomatch e
  · cases h
  rename_i z s1 h1
  dsimp only at h
  split at h
  · rename_i bE sE hl
    cases h
    refine hi ws H s σ ρ _ _ S N h1 True.intro fun z' s1' ez J ws1 H1 t1 S1 wk p hp => ?_
    cases ez
    have start : LIn C.T p ws1 H1 [] s1 (ws1.hide p) (upd H1 p (.lst [])) := ⟨List.mem_cons_self, (S1.stq_hide hp).q, S1.hide hp, [], upd_same, rfl⟩
    -- what is more within: the hidden objects that were there stay
    let In : List D → Sto → Ws → Hp → Prop := fun b s ws H => LIn C.T p ws1 H1 b s ws H ∧ ∀ a ∈ ws1.hid, H a = H1 a
    have pn : p ∉ ws1.hid := (S1.fresh hp).2
    have step : ∀ b s s' ws H ws' H', In b s ws H → Stp ws H ws' H' → Sta C.T ws' H' s' → In b s' ws' H' := fun b s s' ws H ws' H' h t S => ⟨h.1.go t S, fun a w => (t.hk a (h.1.2.1.hid a w)).trans (h.2 a w)⟩
    refine Exists.elim (ev_go (In := In) (Bd := fun Nx σ2 H3 => wi1 σ2 H3 fun J1 H4 => ∃ W1 : Nat → Nat → Hp → Prop, (∃ m, W1 0 m H4) ∧
      VmGo J1 tg1 tt1 vs1 (L2.wipe σ2 vs1) W1 Nx fun Nx1 σ3 H6 => te σ3 H6 fun y H7 => ∃ acc, H7 p = some (.lst acc) ∧ acc.length < sizeLine ∧ Nx1 (upd H7 p (.lst (acc ++ [y]))))
      (Fn := fun H => Q (.ref p) H) (bd := cl1 fi1 g1 ft1 (lcB fe) vs1) (bE := bE) (sE := sE) hg ht (fun b s ws H h => ⟨h.1.2.1, h.1.2.2.1⟩) step wk (N.stp t1) hv hvx ?_ ?_) fun W hW => ⟨W, hW.1 _ _ _ _ ⟨start, fun a w => upd_ne fun e => pn (e ▸ w)⟩ hl, hW.2⟩
    · intro ws2 H2 s2 σ2 ρ1 b b' s' Nx hin N2 e nx
      unfold cl1 at e
      split at e
      · rename_i z1 s3 e3
        refine hi1 ws2 H2 s2 σ2 ρ1 _ _ hin.1.2.2.1 N2 e3 True.intro fun z' s' ez J1 ws3 H3 t3 S3 wk1 => ?_
        cases ez
        have in3 := step _ _ _ _ _ _ _ hin t3 S3
        refine Exists.elim (ev_go (In := fun b s ws H => In b s ws H ∧ Stq ws3 H3 ws H) (Bd := fun Nx1 σ3 H6 => te σ3 H6 fun y H7 => ∃ acc, H7 p = some (.lst acc) ∧ acc.length < sizeLine ∧ Nx1 (upd H7 p (.lst (acc ++ [y]))))
          (Fn := Nx) (bd := lcB fe) (bE := b') (sE := s') hg1 ht1 (fun b s ws H h => ⟨h.2, h.1.1.2.2.1⟩) (fun b s s' ws H ws' H' h t S => ⟨step _ _ _ _ _ _ _ h.1 t S, h.2.trans t.q⟩) wk1 (N2.stp t3) hv1 hvx1 ?_ (fun ws H h => nx ws H h.1)) fun W1 hW => ⟨W1, hW.1 _ _ _ _ ⟨in3, (Stp.refl _ _).q⟩ e, hW.2⟩
        · intro ws4 H4 s4 σ4 ρ4 b4 b5 s5 Nx1 h4 N4 e4 nx1
          exact ev_lcB ee h4.1.1 N4 e4 fun ws' H' d t k => nx1 ws' H' ⟨⟨d, fun a w => (k a (h4.1.1.2.1.hid a w) fun e => pn (e ▸ w)).trans (h4.1.2 a w)⟩, h4.2.trans t⟩
      · cases e
    · intro ws2 H2 hin
      obtain ⟨⟨g1', g2, g3, xs, g4, g6⟩, g7⟩ := hin
      have t : Stp ws1 H1 (ws2.free p) H2 := stp_free ⟨g2.pre, g2.hid, g2.fz, g7⟩ pn
      refine q _ _ rfl (.ref p) (ws2.free p) H2 (t1.trans t) g3.free ⟨p, xs, rfl, g3.free_at g1' g4, ?_⟩
      exact Reps.mono (ws := ws2) (ws' := ws2.free p) (List.prefix_refl _) free_mono _ _ g6
  · cases h
section
variable {X : Cx} {C : Cn} {elt tg iter tg1 iter1 : Expr} {ifs ifs1 : List Expr} {scope : Scope} {own : List (Str × Nat)} {pos : Pos} {fi fi1 : M Src} {g g1 : D → Rho → Option Rho} {ft ft1 : M Bool} {fe : M D} {is is1 vs1 : List Nat}
theorem de_lc2 (hc : X.calm = true) (hN : X.N.Nodup) (hi : DI X C tg iter fi) (ok : BlkOk X.N X.env.scope scope own) (hv : ∀ i ∈ is, i ∈ own.map (·.2)) (hv1 : ∀ i ∈ is1, i ∈ vs1) (hvs : ∀ i ∈ vs1, i ∈ own.map (·.2))
    (hg : ∀ b : Blk, DG (b.cx X scope) C.in0 tg g is) (ht : ∀ b : Blk, DTs (b.cx X scope) C.in0 ifs ft) (hi1 : ∀ b : Blk, DI (b.cx X scope) C.in0 tg1 iter1 fi1) (hg1 : ∀ b : Blk, DG (b.cx X scope) C.in0 tg1 g1 is1) (ht1 : ∀ b : Blk, DTs (b.cx X scope) C.in0 ifs1 ft1)
    (he : ∀ b : Blk, DE (b.cx X scope) C.in0 elt fe) (hvx : ∀ i ∈ own.map (·.2), nsl C.x i := by exact nsl_none)
    (hs : ∀ x, foldedSetIterable iter X.env x = pure x := by intro _; rfl) (hs1 : ∀ env x, foldedSetIterable iter1 env x = pure x := by intro _ _; rfl) :
    DE X C (.ListComp elt [⟨tg, iter, ifs, 0⟩, ⟨tg1, iter1, ifs1, 0⟩] scope pos) (fLc2 fi g ft fi1 g1 ft1 fe (own.map (·.2)) vs1) :=
  let ⟨_, pi, ei⟩ := hi.ex
  let ⟨_, pg, eg⟩ := unify_G (C := C.in0) (Y := fun b : Blk => b.cx X scope) hg
  let ⟨_, pt, et⟩ := unify_T (C := C.in0) (Y := fun b : Blk => b.cx X scope) ht
  let ⟨_, pi1, ei1⟩ := unify_I (C := C.in0) (Y := fun b : Blk => b.cx X scope) hi1
  let ⟨_, pg1, eg1⟩ := unify_G (C := C.in0) (Y := fun b : Blk => b.cx X scope) hg1
  let ⟨_, pt1, et1⟩ := unify_T (C := C.in0) (Y := fun b : Blk => b.cx X scope) ht1
  let ⟨_, pe, ee⟩ := unify_E (C := C.in0) (Y := fun b : Blk => b.cx X scope) he
  ⟨_, pe_lc2 hc hN pi ok hvs (fun s H Ca cl fp => pg ⟨s, H, Ca, cl, fp⟩) (fun s H Ca cl fp => pt ⟨s, H, Ca, cl, fp⟩) (fun s H Ca cl fp => pi1 ⟨s, H, Ca, cl, fp⟩) (fun s H Ca cl fp => pg1 ⟨s, H, Ca, cl, fp⟩) (fun s H Ca cl fp => pt1 ⟨s, H, Ca, cl, fp⟩) (fun s H Ca cl fp => pe ⟨s, H, Ca, cl, fp⟩) hs hs1,
    ev_lc2 ei eg et ei1 eg1 et1 ee hv hv1 hvx fun i h => hvx i (hvs i h)⟩
theorem ds_setLc2 (j : Nat) {y : Str} {py spos : Pos} (hc : X.calm = true) (hN : X.N.Nodup) (hi : DI X C tg iter fi) (ok : BlkOk X.N X.env.scope scope own) (hv : ∀ i ∈ is, i ∈ own.map (·.2)) (hv1 : ∀ i ∈ is1, i ∈ vs1) (hvs : ∀ i ∈ vs1, i ∈ own.map (·.2))
    (hg : ∀ b : Blk, DG (b.cx X scope) C.in0 tg g is) (ht : ∀ b : Blk, DTs (b.cx X scope) C.in0 ifs ft) (hi1 : ∀ b : Blk, DI (b.cx X scope) C.in0 tg1 iter1 fi1) (hg1 : ∀ b : Blk, DG (b.cx X scope) C.in0 tg1 g1 is1) (ht1 : ∀ b : Blk, DTs (b.cx X scope) C.in0 ifs1 ft1)
    (he : ∀ b : Blk, DE (b.cx X scope) C.in0 elt fe)
    (hsw : swapsWith (.ListComp elt [⟨tg, iter, ifs, 0⟩, ⟨tg1, iter1, ifs1, 0⟩] scope pos) (some (.Name y py)) spos.line X.env = pure true)
    (hvx : ∀ i ∈ own.map (·.2), nsl C.x i := by exact nsl_none) (hns : nsl C.x j := by first | exact True.intro | (show (_ : Nat) ≠ _; decide))
    (hy : X.N[j]? = some y := by rfl) (hyl : X.env.scope.names.lookup y = some .local := by rfl)
    (hs : ∀ x, foldedSetIterable iter X.env x = pure x := by intro _; rfl) (hs1 : ∀ env x, foldedSetIterable iter1 env x = pure x := by intro _ _; rfl) :
    DS X C (.Assign [.Name y py] (.ListComp elt [⟨tg, iter, ifs, 0⟩, ⟨tg1, iter1, ifs1, 0⟩] scope pos) spos) (fAsg (fLc2 fi g ft fi1 g1 ft1 fe (own.map (·.2)) vs1) (gNm j)) :=
  let ⟨_, pi, ei⟩ := hi.ex
  let ⟨_, pg, eg⟩ := unify_G (C := C.in0) (Y := fun b : Blk => b.cx X scope) hg
  let ⟨_, pt, et⟩ := unify_T (C := C.in0) (Y := fun b : Blk => b.cx X scope) ht
  let ⟨_, pi1, ei1⟩ := unify_I (C := C.in0) (Y := fun b : Blk => b.cx X scope) hi1
  let ⟨_, pg1, eg1⟩ := unify_G (C := C.in0) (Y := fun b : Blk => b.cx X scope) hg1
  let ⟨_, pt1, et1⟩ := unify_T (C := C.in0) (Y := fun b : Blk => b.cx X scope) ht1
  let ⟨_, pe, ee⟩ := unify_E (C := C.in0) (Y := fun b : Blk => b.cx X scope) he
  ⟨_, ps_setLc2 hc hN hy hyl hsw pi ok hvs (fun s H Ca cl fp => pg ⟨s, H, Ca, cl, fp⟩) (fun s H Ca cl fp => pt ⟨s, H, Ca, cl, fp⟩) (fun s H Ca cl fp => pi1 ⟨s, H, Ca, cl, fp⟩) (fun s H Ca cl fp => pg1 ⟨s, H, Ca, cl, fp⟩) (fun s H Ca cl fp => pt1 ⟨s, H, Ca, cl, fp⟩) (fun s H Ca cl fp => pe ⟨s, H, Ca, cl, fp⟩) hs hs1,
    ev_asg (is := [j]) (ev_lc2 ei eg et ei1 eg1 et1 ee hv hv1 hvx fun i h => hvx i (hvs i h)) (gok_nm hns)⟩
end
end
end VM
set_option Elab.async false
set_option maxRecDepth 100000
set_option maxHeartbeats 4000000
set_option linter.all false
set_option autoImplicit false
/-! {k: v for ..}. -/
namespace VM
open PySem L2
noncomputable section
def fDc (fi : M Src) (g : D → Rho → Option Rho) (ft : M Bool) (fk fv : M D) (vs : List Nat) : M D := bnd fi fun z => fun ρ s =>
  match clL g ft (dcB fk fv) z.2 (wipeD ρ vs) z.1 ([], []) s with
  | some (b, s') => some (.ok (.dct false b.1 b.2) s')
  | none => none
theorem ev_dc {C : Cn} {wi : TI} {tg : TG} {tt : TT} {tk tv : TE} {fi : M Src} {g : D → Rho → Option Rho} {ft : M Bool} {fk fv : M D} {is vs : List Nat} (hi : EvI C wi fi) (hg : GOk C tg g is) (ht : EvT C.in0 tt ft)
    (ek : EvS C.in0 tk fk) (ev : EvS C.in0 tv fv) (hv : ∀ i ∈ is, i ∈ vs) (hvx : ∀ i ∈ vs, nsl C.x i) : EvS C (tDc wi tg tt tk tv vs) (fDc fi g ft fk fv vs) := by
  intro ws H s σ ρ R Q S N h xx q
  unfold fDc bnd at h
  split at h
  rotate_left
  · rename_i e s1 h1
    cases h
    exact hi ws H s σ ρ _ _ S N h1 xx fun z s' e => nomatch e
  · cases h
  rename_i z s1 h1
  dsimp only at h
  split at h
  · rename_i bE sE hl
    cases h
    refine hi ws H s σ ρ _ _ S N h1 True.intro fun z' s1' ez J ws1 H1 t1 S1 wk p hp => ?_
    cases ez
    have pn : p ∉ ws1.hid := (S1.fresh hp).2
    have start : DIn C.T p ws1 H1 ([], []) s1 (ws1.hide p) (upd H1 p (.dK [])) := ⟨List.mem_cons_self, (S1.stq_hide hp).q, S1.hide hp, [], upd_same, rfl, rfl⟩
    refine Exists.elim (ev_go (In := fun b s ws H => DIn C.T p ws1 H1 b s ws H ∧ ∀ a ∈ ws1.hid, H a = H1 a) (Bd := fun Nx σ2 H3 => tk σ2 H3 fun y H4 => tv σ2 H4 fun z H5 => ∃ kvs k, y = kV k ∧ H5 p = some (.dK kvs) ∧ kvs.length < sizeLine ∧ Nx (upd H5 p (.dK (putK kvs k z))))
      (Fn := fun H => Q (.ref p) H) (bd := dcB fk fv) (bE := bE) (sE := sE) hg ht (fun b s ws H h => ⟨h.1.2.1, h.1.2.2.1⟩) (fun b s s' ws H ws' H' h t S => ⟨h.1.go t S, fun a w => (t.hk a (h.1.2.1.hid a w)).trans (h.2 a w)⟩) wk (N.stp t1) hv hvx ?_ ?_)
      fun W hW => ⟨W, hW.1 _ _ _ _ ⟨start, fun a w => upd_ne fun e => pn (e ▸ w)⟩ hl, hW.2⟩
    · intro ws4 H4 s4 σ4 ρ4 b4 b5 s5 Nx1 h4 N4 e4 nx1
      exact ev_dcB ek ev h4.1 N4 e4 fun ws' H' d t k => nx1 ws' H' ⟨d, fun a w => (k a (h4.1.2.1.hid a w) fun e => pn (e ▸ w)).trans (h4.2 a w)⟩
    · intro ws2 H2 hin
      obtain ⟨⟨g1', g2, g3, kvs, g4, g5, g6⟩, g7⟩ := hin
      have t : Stp ws1 H1 (ws2.free p) H2 := stp_free ⟨g2.pre, g2.hid, g2.fz, g7⟩ pn
      refine q _ _ rfl (.ref p) (ws2.free p) H2 (t1.trans t) g3.free ⟨p, rfl, .inl ⟨rfl, kvs, g3.free_at g1' g4, g5, ?_⟩⟩
      exact Reps.mono (ws := ws2) (ws' := ws2.free p) (List.prefix_refl _) free_mono _ _ g6
  · cases h
section
variable {X : Cx} {C : Cn} {kx vx tg iter : Expr} {ifs : List Expr} {scope : Scope} {own : List (Str × Nat)} {pos : Pos} {fi : M Src} {g : D → Rho → Option Rho} {ft : M Bool} {fk fv : M D} {is : List Nat}
theorem de_dc (hc : X.calm = true) (hN : X.N.Nodup) (hi : DI X C tg iter fi) (ok : BlkOk X.N X.env.scope scope own) (hv : ∀ i ∈ is, i ∈ own.map (·.2))
    (hg : ∀ b : Blk, DG (b.cx X scope) C.in0 tg g is) (ht : ∀ b : Blk, DTs (b.cx X scope) C.in0 ifs ft) (hk : ∀ b : Blk, DE (b.cx X scope) C.in0 kx fk) (he : ∀ b : Blk, DE (b.cx X scope) C.in0 vx fv)
    (hvx : ∀ i ∈ own.map (·.2), nsl C.x i := by exact nsl_none) (hs : ∀ x, foldedSetIterable iter X.env x = pure x := by intro _; rfl) :
    DE X C (.DictComp kx vx [⟨tg, iter, ifs, 0⟩] scope pos) (fDc fi g ft fk fv (own.map (·.2))) :=
  let ⟨_, pi, ei⟩ := hi.ex
  let ⟨_, pg, eg⟩ := unify_G (C := C.in0) (Y := fun b : Blk => b.cx X scope) hg
  let ⟨_, pt, et⟩ := unify_T (C := C.in0) (Y := fun b : Blk => b.cx X scope) ht
  let ⟨_, pk, ek⟩ := unify_E (C := C.in0) (Y := fun b : Blk => b.cx X scope) hk
  let ⟨_, pv, ev⟩ := unify_E (C := C.in0) (Y := fun b : Blk => b.cx X scope) he
  ⟨_, pe_dc hc hN pi ok (fun s H Ca cl fp => pg ⟨s, H, Ca, cl, fp⟩) (fun s H Ca cl fp => pt ⟨s, H, Ca, cl, fp⟩) (fun s H Ca cl fp => pk ⟨s, H, Ca, cl, fp⟩) (fun s H Ca cl fp => pv ⟨s, H, Ca, cl, fp⟩) hs, ev_dc ei eg et ek ev hv hvx⟩
end
end
end VM
set_option Elab.async false
set_option maxRecDepth 100000
set_option maxHeartbeats 4000000
set_option linter.all false
set_option autoImplicit false
/-! What the end gives, class by class; the law's own promise. -/
namespace VM
open PySem L2 VE

theorem takes0 {X : Cx} : Takes X W0 := fun _ _ ⟨_, _, _, _, _, _, _, _, _, _, _, _, _, _, _, _, w⟩ => w.elim

/-! ### instances' classes -/
def allTN : List TN := [.int, .bool, .str, .list, .tuple, .dict, .set]
def insB (K : PySem.W.Frag) (C : Addr) : Bool := PySem.W.plainGet K C Str.empty && (PySem.W.hasDictIn K C && (PySem.W.plainOver K C && (decide (PySem.W.findIn K (.ref C) "__setattr__" = some (some (.builtin "object.__setattr__"))) &&
  (decide (PySem.W.findIn K (.ref C) "__class__" = some (some (.builtin "object.__class__"))) && (decide (PySem.W.specialIn K (.builtin "object.__class__") "__get__" = some (some (.builtin "getset_descriptor.__get__"))) &&
  (decide (PySem.W.takesIn K (.builtin "object.__class__") = some true) && (decide (PySem.W.mroIn K C (.type "object") = some true) && allTN.all fun t => decide (PySem.W.kitOne K (.ref C) (.type t.nm) = some false))))))))
theorem insB_ok {K : PySem.W.Frag} {C : Addr} (h : insB K C = true) : InsC K C := by
  unfold insB at h
  simp only [Bool.and_eq_true, decide_eq_true_eq, List.all_eq_true] at h
  obtain ⟨h1, h2, h3, h4, h5, h6, h7, h8, h9⟩ := h
  exact ⟨⟨h1, h2, h3, h4⟩, h5, h6, h7, h8, fun t => h9 t (by cases t <;> simp [allTN])⟩
/-- no attribute of the class has one of the names -/
def noB (K : PySem.W.Frag) (C : Addr) (fs : List Str) : Bool := fs.all fun f => decide (PySem.W.findIn K (.ref C) f = some none)
theorem noB_ok {K : PySem.W.Frag} {C : Addr} {fs : List Str} (h : noB K C fs = true) : ∀ f ∈ fs, NoAttr K C f := fun f hf => (of_decide_eq_true (List.all_eq_true.mp h f hf) : PySem.W.findIn K (.ref C) f = some none)
/-- isinstance(x, D), D an own class: what built-in types answer; what the classes answer -/
def tyB (K : PySem.W.Frag) (C : Addr) : Bool := tyN.all fun x => decide (PySem.W.kitOne K (.type x) (.ref C) = some false)
theorem tyB_ok {K : PySem.W.Frag} {C : Addr} (h : tyB K C = true) : ∀ x ∈ tyN, PySem.W.kitOne K (.type x) (.ref C) = some false := fun x hx => of_decide_eq_true (List.all_eq_true.mp h x hx)
def tabB (K : PySem.W.Frag) (C : Addr) (tab : List (Addr × Bool)) : Bool := tab.all fun q => decide (PySem.W.kitOne K (.ref q.1) (.ref C) = some q.2)
theorem tabB_ok {K : PySem.W.Frag} {C : Addr} {ad : Nat → Addr} {tab : List (Nat × Bool)} (h : tabB K C (tab.map fun q => (ad q.1, q.2)) = true) : ∀ q ∈ tab, PySem.W.kitOne K (.ref (ad q.1)) (.ref C) = some q.2 := fun q hq =>
  of_decide_eq_true (List.all_eq_true.mp h (ad q.1, q.2) (List.mem_map.mpr ⟨q, hq, rfl⟩))
/-- except D: what the classes of errors answer -/
def exmB (K : PySem.W.Frag) (c : Value) (tab : List (Addr × Bool)) : Bool := tab.all fun q => decide (PySem.W.exmOne K (.ref q.1) c = some q.2)
theorem exmB_ok {K : PySem.W.Frag} {c : Value} {ad : Nat → Addr} {tab : List (Nat × Bool)} (h : exmB K c (tab.map fun q => (ad q.1, q.2)) = true) : ∀ q ∈ tab, PySem.W.exmOne K (.ref (ad q.1)) c = some q.2 := fun q hq =>
  of_decide_eq_true (List.all_eq_true.mp h (ad q.1, q.2) (List.mem_map.mpr ⟨q, hq, rfl⟩))

/-! ### errors' classes -/
/-- of an error class: names, ValueError, the class object's parts -/
def errB (K : PySem.W.Frag) (C : Addr) : Bool := decide (PySem.W.findIn K (.ref C) "__setattr__" = some (some (.builtin "object.__setattr__"))) && (decide (PySem.W.subIn K (.ref C) (.type "BaseException") = some true) && (decide (PySem.W.typeIn K (.ref C) = some (.type "type")) && (PySem.W.keepIn K (.ref C) &&
  (decide (PySem.W.subIn K (.ref C) (.type "ValueError") = some true) && (decide (PySem.W.findIn K (.ref C) "place" = some none) && (decide (PySem.W.findIn K (.ref C) "name" = some none) && xfB K C))))))
theorem errB_own {K : PySem.W.Frag} {C : Addr} (h : errB K C = true) {nm q : Str} {N : Addr} {bs bm : List Value} {sn : List Str} {sub : List Value} {ab : Bool} {col : Option Bool} {dd : Option Addr} {k0 k1 k2 k3 k5 : Option Value}
    (l : K.lookup C = some (excClassObj nm q C N bs bm true sn sub ab col dd k0 k1 k2 k3 k5 "ValueError.__new__")) (r : PySem.HandSPX.refsVE bm = true) : OwnC K C ∧ XfOk K C := by
  unfold errB at h
  simp only [Bool.and_eq_true, decide_eq_true_eq] at h
  obtain ⟨h1, h2, h3, h4, h5, h6, h7, h8⟩ := h
  exact ⟨⟨⟨⟨nm, q, N, bs, bm, sn, sub, ab, col, dd, k0, k1, k2, k3, k5, l, r⟩, h1, h2, h3, h4⟩, h5, h6, h7⟩, ⟨xfB_ok h8, h6, h7⟩⟩
section
variable {P : Program} {w : World} {K : PySem.W.Frag} {mg : Str → Option Value} {base : Heap} {qual qual' : Str} {q1 q2 q1' q2' : Pos} {bd bd' : List Stmt} {f D cc c f' D' cc' c' : Addr} {p0 p1 p2 p3 p4 p5 p0' p1' p2' p3' p4' p5' : Pos}
theorem sup_binds {doc pm ct : Value} {an : Option Addr} : Binds K (PySem.W.fnX "__init__" qual (supAr q1 q2) bd supSc [("__class__", cc)] .none .none doc pm an (.ref c) ct) supPs [] := .all fun us hl => match us, hl with | [_, _], _ => rfl
/-- what the end says of an error class's maker -/
structure ErrI (K : PySem.W.Frag) (P : Program) (mg : Str → Option Value) (x qual : Str) (q1 q2 : Pos) (bd : List Stmt) (f D cc c : Addr) : Prop where
  S : SupF K P mg qual q1 q2 bd f D cc c
  gm : mg x = some (.ref D)
  own : OwnC K D
  xf : XfOk K D
  ini : PySem.W.findIn K (.ref D) "__init__" = some (some (.ref f))
  ty : PySem.W.typeIn K (.ref f) = some (.type "function")
  fn : PySem.W.fnIn K f = true
theorem fn_cityErr {nm : Str} {r1 r2 r3 r4 r5 r6 r7 r8 : Pos} {j : Nat} (S : SupF K P mg qual q1 q2 bd f D cc c) (hbd : bd = [.Expr (supCall p0 p1 p2 p3 p4) p5, .Assign [.Attribute (.Name "self" r1) "place" r2] (.Name "place" r3) r4, .Assign [.Attribute (.Name "self" r5) "name" r6] (.Constant (.str nm) j r7) r8])
    (hco : CallOk qual q1 q2 bd cc c f p0 p1 p2 p3 p4) (k : Nat) : ∃ fd, FnOk P w K mg base CX0 (k + 1) f fd supPs (spB K D nm) ∧ Binds K fd supPs [] := by
  obtain ⟨oc, od, doc, pm, an, ctv, sl, lk⟩ := S.lk
  exact ⟨_, fn_base S hco ⟨oc, od, doc, pm, an, ctv, sl, rfl, lk⟩ hbd, sup_binds⟩
theorem err_base {x nm : Str} {r1 r2 r3 r4 r5 r6 r7 r8 : Pos} {j : Nat} (I : ErrI K P mg x qual q1 q2 bd f D cc c) (hbd : bd = [.Expr (supCall p0 p1 p2 p3 p4) p5, .Assign [.Attribute (.Name "self" r1) "place" r2] (.Name "place" r3) r4, .Assign [.Attribute (.Name "self" r5) "name" r6] (.Constant (.str nm) j r7) r8])
    (hco : CallOk qual q1 q2 bd cc c f p0 p1 p2 p3 p4) (sc : SupC K D D (.builtin "ValueError.__init__")) : ErrOk P w K mg base 2 x D nm := by
  obtain ⟨fd, G, hb⟩ := fn_cityErr (w := w) (base := base) I.S hbd hco 1
  exact ⟨I.own, I.gm, f, fd, _, fun p => [(("name" : Str), .str nm), (("place" : Str), p)], I.ini, I.ty, G, hb, fun p => ⟨rfl, rfl⟩, fun e p H Q E h q => ⟨e, D, p, rfl, I.own, sc, h, fun dx H' z => q dx H' z⟩⟩
theorem err_own {x x' nm nm' : Str} {r1 r2 r3 r4 r5 r6 r7 r8 r5' r6' r7' r8' : Pos} {j j' : Nat} (I' : ErrI K P mg x' qual' q1' q2' bd' f' D' cc' c') (I : ErrI K P mg x qual q1 q2 bd f D cc c)
    (hbd' : bd' = [.Expr (supCall p0' p1' p2' p3' p4') p5', .Assign [.Attribute (.Name "self" r1) "place" r2] (.Name "place" r3) r4, .Assign [.Attribute (.Name "self" r5) "name" r6] (.Constant (.str nm') j r7) r8])
    (hco' : CallOk qual' q1' q2' bd' cc' c' f' p0' p1' p2' p3' p4')
    (hbd : bd = [.Expr (supCall p0 p1 p2 p3 p4) p5, .Assign [.Attribute (.Name "self" r5') "name" r6'] (.Constant (.str nm) j' r7') r8'])
    (hco : CallOk qual q1 q2 bd cc c f p0 p1 p2 p3 p4) (sc : SupC K D D (.ref f')) (sc' : SupC K D D' (.builtin "ValueError.__init__")) : ErrOk P w K mg base 2 x D nm := by
  obtain ⟨fd', G, hb⟩ := fn_cityErr (w := w) (base := base) I'.S hbd' hco' 0
  obtain ⟨oc, od, doc, pm, an, ctv, sl, lk⟩ := I.S.lk
  have F := fn_own (k := 1) (w := w) (base := base) (nm := nm) (bn := nm') I.S hco ⟨oc, od, doc, pm, an, ctv, sl, rfl, lk⟩ (G.mono (by decide)) hb I'.ty I'.fn hbd
  exact ⟨I.own, I.gm, f, _, _, fun p => [(("name" : Str), .str nm), (("name" : Str), .str nm'), (("place" : Str), p)], I.ini, I.ty, F, sup_binds, fun p => ⟨rfl, rfl⟩, fun e p H Q E h q => ⟨e, D, p, rfl, I.own, sc, sc', h, fun dx H' z => q dx H' z⟩⟩
end
end VM
set_option Elab.async false
set_option maxRecDepth 100000
set_option maxHeartbeats 4000000
set_option linter.all false
set_option autoImplicit false
/-! list(x) that is owned; the law's end. -/
namespace VM
open PySem L2 VE
/-! ### a call that gives a new list, owned from now on -/
def CallSO (T : Kt) (r : List V → Hp → VK → Prop) (g : GC) : Prop := ∀ (ws : Ws) (H : Hp) (s : Sto) (xs : List D) (z : D) (vs : List V) (Q : VK), Sta T ws H s → Reps T ws (mask ws H) xs vs → g s xs = some z →
  (∀ l ys ds, z = .lst ds → H l = none → Reps T ws (mask ws H) ds ys → Q (.ref l) (upd H l (.lst ys))) → r vs H Q
def fCBo (g : GC) (fa : M (List D)) : M D := bnd fa fun xs => fun _ s => match g s xs with
  | some (.lst ds) => some (.ok (.own s.length) (s ++ [.lst ds]))
  | _ => none
theorem ev_cbo {C : Cn} {r : List V → Hp → VK → Prop} {gg : GC} {ta : TA} {fa : M (List D)} (ho : CallSO C.T r gg) (ea : EvA C ta fa) : EvS C (tCB r ta) (fCBo gg fa) := fun ws H s σ ρ R Q S N h xx q => (ea.b) S N h xx fun xs s1 h vs ws1 H1 t1 S1 r1 => by
  split at h
  · rename_i ds e
    cases h
    refine ho ws1 H1 _ xs _ vs Q S1 r1 e fun l ys ds' e2 hl r2 => ?_
    cases e2
    have t2 : Stp ws1 H1 (ws1.add l) (upd H1 l (.lst ys)) := S1.stp_own hl
    exact q _ _ rfl _ (ws1.add l) _ (t1.trans t2) (S1.newOwn (so := .lst ds) hl r2) (rep_last S1)
  · cases h
section
variable {X : Cx} {C : Cn} {a b c e : Expr} {es : List Expr} {pos p : Pos}
theorem de_callTyO {x : Str} {T : String} {r : List V → Hp → VK → Prop} {gg : GC} {fa : M (List D)} (hc : CallR X (.type T) r) (ho : CallSO C.T r gg) (hm : X.mg x = none) (hv : bootBuiltins x = some (.type T)) (ha : DA X C (e :: es) fa) (hg : Gl X x := by rfl)
    (hn : x ≠ "__name__" := by decide) (hdb : (x == ("__debug__" : Str)) = false := by decide)
    (he : starEach (e :: es) X.env = (false, eval e X.env) :: starEach es X.env := by rfl) (hpl : (backTo pos (starEach es X.env)).any (·.1) = false := by rfl) : DE X C (.Call (.Name x p) (e :: es) [] pos) (fCBo gg fa) :=
  let ⟨_, pa, ea⟩ := ha.ex
  ⟨_, pe_callTy hc hg hm hv pa hn hdb he hpl, ev_cbo ho ea⟩
end
theorem co_list {T : Kt} : CallSO T (fun xs H Q => ∃ p ys, xs = [.ref p] ∧ (SqL T.K H p ys ∨ SqT T.K H p ys) ∧ ∀ l, H l = none → Q (.ref l) (upd H l (.lst ys))) (c1 listD) := fun ws H s xs z vs Q S r e q => by
  obtain ⟨x, rfl, e1⟩ := c1_some e
  obtain ⟨v, rfl, r1⟩ := reps_one r
  replace e := e1
  replace r := r1
  unfold listD at e
  split at e
  · cases e
    obtain ⟨a, ys, rfl, h1, h2⟩ := r
    exact ⟨a, ys, rfl, .inr (sqT_un h1), fun l hl => q l ys _ rfl hl h2⟩
  · obtain ⟨ds, h, rfl⟩ := Option.map_eq_some_iff.mp e
    obtain ⟨a, ys, rfl, h1, h2⟩ := itL_ok S r h
    exact ⟨a, ys, rfl, .inl h1, fun l hl => q l ys _ rfl hl h2⟩

/-! ### the law's own promise -/
/-- a list of at most 63 ints is handed in, True comes out -/
def spLaw (K : PySem.W.Frag) : Sp := fun vs H Q _ => ∃ (a : Addr) (ns : List Int), vs = [.ref a] ∧ SqL K H a (ns.map V.int) ∧ ns.length ≤ 63 ∧ (∀ z ∈ ns, Builtin.Int.intBits z ≤ 1048576) ∧ ∀ H', Q (.bl true) H'
theorem law_ok {P : Program} {w : World} {T : Kt} {mg : Str → Option Value} {base : Heap} {k : Nat} {f : Addr} {fd : FuncData} {m : FM} (hm : ∀ ns : List Int, ns.length ≤ 63 → (∀ z ∈ ns, Builtin.Int.intBits z ≤ 1048576) → ∃ s, m [] [.lck (ns.map D.int)] = some (.ok (.bl true) s))
    (G : FnOk P w T.K mg base (L2.CX P w) k f fd ["script"] (spF T 1 m)) : FnOk P w T.K mg base (L2.CX P w) k f fd ["script"] (spLaw T.K) :=
  G.imp fun vs H Q E h => by
    obtain ⟨a, ns, rfl, hS, hl, hb, q⟩ := h
    obtain ⟨s', e⟩ := hm ns hl hb
    refine ⟨rfl, ⟨[], []⟩, [], [.lck (ns.map D.int)], .ok (.bl true) s', ⟨List.nodup_nil, rfl, fun _ z => (nomatch z), fun _ z => (nomatch z), fun l a ds z => by simp at z⟩, ⟨.ref a, [], rfl, ⟨a, ns.map V.int, rfl, ?_, reps_ints ns⟩, rfl⟩, e, True.intro, fun d s2 e2 v ws' H' _ _ r => by
      cases e2
      cases r
      exact q H'⟩
    exact sqL_mono (fun b o e => by rw [mask_of (ws := ⟨[], []⟩) ⟨by simp, by simp⟩]; exact e) hS
theorem walk {k : Nat} {l : PySem.W.OpenLaw} {q : Program} {loose : List Str} {XP : (Str → Option Value) → Heap → Prop} {YP : World → Heap → Prop} {d : DefRec} {K : Params → PySem.W.Frag} (hk : k ≤ 40) (hn : l.most = some 63) (hdf : d.params.defaults = [])
    (hY : ∀ (w : World) (h : Heap), YP w h → (K w.params).In h)
    (F : ∀ (w : World) (mg : Str → Option Value) (fa : Addr) (h : Heap), (K w.params).In h → h.Ns mainGlobals mg → mg d.name = some (.ref fa) →
      ∃ fd : FuncData, (∀ (s : Shared) (u : Value), BindsTo s fd ⟨[u], []⟩ [("script", u)]) ∧ ∀ base : Heap, (K w.params).In base → base.Ns mainGlobals mg → FnOk l.prog w (K w.params) mg base (L2.CX l.prog w) k fa fd ["script"] (spLaw (K w.params))) :
    PySem.W.WalkO q loose XP YP l.row.toRowW d [] (fun f vs => PySem.call f vs) := by
  have hr : Room 40 callerA := ⟨rfl, by decide, by decide⟩
  refine L2.walk_ofB (n := 63) (k := k) (x := "script") (CX := fun w => L2.CX l.prog w) (sp := fun w => spLaw (K w.params)) hn (by decide) hdf (hr.mono hk) hY F (fun _ _ a ns hl hb _ hS => ⟨a, ns, rfl, hS, hl, hb, fun _ => rfl⟩) ?_
  rintro w H s e s' ⟨_, _, _, _, _, _, _, _, _, _, _, _, z⟩
  exact z
end VM
set_option Elab.async false
set_option maxRecDepth 100000
set_option maxHeartbeats 4000000
set_option linter.all false
set_option autoImplicit false
/-! How the value functions are evaluated. -/
namespace VM
open PySem L2
noncomputable section
theorem nrf {α : Sort _} {a b : α} (h : a = b) : a = b := h
section
variable {α β : Type} {ρ : Rho} {s : Sto} {f g h fa fb fc : M D} {t u : M Bool} {d x y : D} {gg g1 g2 : G2} {i j : Int} {l n c : Nat} {ds es vs ks : List D} {ns : List Nat} {e : Exn}
@[simp] theorem bnd_ap {a : M α} {k : α → M β} : bnd a k ρ s = match a ρ s with
  | some (.ok x s1) => k x ρ s1
  | some (.ex e s1) => some (.ex e s1)
  | none => none := nrf rfl
@[simp] theorem got_ap {a : Sto → Option α} : got a ρ s = match a s with
  | some x => some (.ok x s)
  | none => none := nrf rfl
@[simp] theorem ret_ap {x : α} : ret x ρ s = some (.ok x s) := nrf rfl
@[simp] theorem fVar_ap : fVar n ρ s = match ρ[n]? with
  | some (some d) => some (.ok d s)
  | _ => none := nrf rfl
@[simp] theorem fC_ap : fC d ρ s = some (.ok d s) := nrf rfl
@[simp] theorem fOp_ap : fOp gg fa fb ρ s = bnd fa (fun x => bnd fb fun y => got fun s => gg s x y) ρ s := nrf rfl
@[simp] theorem fTru_ap : fTru f ρ s = bnd f (fun x => got fun s => truD s x) ρ s := nrf rfl
def unBl : D → Option Bool
  | .bl b => some b
  | _ => none
@[simp] theorem unBl_bl {b : Bool} : unBl (.bl b) = some b := nrf rfl
@[simp] theorem fBl_ap : fBl f ρ s = bnd f (fun x => got fun _ => unBl x) ρ s := by
  unfold fBl bnd got
  cases f ρ s with
  | none => rfl
  | some r => cases r with
    | ok x s1 => cases x <;> rfl
    | ex e s1 => rfl
@[simp] theorem fChain_ap : fChain g1 g2 fa fb fc ρ s = bnd fa (fun x => bnd fb fun y => bnd (got fun s => (g1 s x y).bind unBl) fun b => if b = true then bnd fc fun w => got fun s => g2 s y w else ret (.bl false)) ρ s := by
  unfold fChain bnd got
  cases fa ρ s with
  | none => rfl
  | some r => cases r with
    | ex e s1 => rfl
    | ok v s1 =>
      dsimp only
      cases fb ρ s1 with
      | none => rfl
      | some r2 => cases r2 with
        | ex e s1 => rfl
        | ok v2 s2 =>
          dsimp only
          cases g1 s2 v v2 with
          | none => rfl
          | some z => cases z with
            | bl b => cases b <;> rfl
            | _ => rfl
@[simp] theorem fAndT_ap : fAndT t u ρ s = bnd t (fun x => if x = true then u else ret false) ρ s := nrf rfl
@[simp] theorem fOrT_ap : fOrT t u ρ s = bnd t (fun x => if x = true then ret true else u) ρ s := nrf rfl
@[simp] theorem fNotT_ap : fNotT t ρ s = bnd t (fun x => ret (!x)) ρ s := nrf rfl
@[simp] theorem fAnd_ap : fAnd f g ρ s = bnd f (fun x => bnd (got fun s => truD s x) fun b => if b = true then g else ret x) ρ s := nrf rfl
@[simp] theorem fOr_ap : fOr f g ρ s = bnd f (fun x => bnd (got fun s => truD s x) fun b => if b = true then ret x else g) ρ s := nrf rfl
@[simp] theorem fNot_ap : fNot f ρ s = bnd f (fun x => got fun s => (truD s x).map fun b => .bl (!b)) ρ s := nrf rfl
@[simp] theorem fIf_ap : fIf t f g ρ s = bnd t (fun b => if b = true then f else g) ρ s := nrf rfl
@[simp] theorem fNeg_ap : fNeg f ρ s = bnd f (fun x => got fun _ => negD x) ρ s := nrf rfl
@[simp] theorem fIs_ap {T : TN} : fIs T f ρ s = bnd f (fun x => got fun s => (isT T s x).map .bl) ρ s := nrf rfl
@[simp] theorem fIsC_ap {tab : List (Nat × Bool)} : fIsC tab f ρ s = bnd f (fun x => got fun s => (isCl tab s x).map .bl) ρ s := nrf rfl
@[simp] theorem fNil_ap : fNil ρ s = some (.ok [] s) := nrf rfl
@[simp] theorem fCons_ap {r : M (List D)} : fCons f r ρ s = bnd f (fun x => bnd r fun xs => ret (x :: xs)) ρ s := nrf rfl
@[simp] theorem fTup_ap {r : M (List D)} : fTup r ρ s = bnd r (fun xs => got fun _ => if xs.length ≤ LIM then some (.tup xs) else none) ρ s := nrf rfl
@[simp] theorem fLst_ap {r : M (List D)} : fLst r ρ s = bnd r (fun xs => got fun _ => if xs.length ≤ LIM then some (.lst xs) else none) ρ s := nrf rfl
@[simp] theorem fOwn_ap {r : M (List D)} : fOwn r ρ s = bnd r (fun xs => fun _ s => if xs.length ≤ LIM then some (.ok (.own s.length) (s ++ [.lst xs])) else none) ρ s := nrf rfl
@[simp] theorem fCB_ap {gc : GC} {r : M (List D)} : fCB gc r ρ s = bnd r (fun xs => got fun s => gc s xs) ρ s := nrf rfl
@[simp] theorem fCBo_ap {gc : GC} {r : M (List D)} : fCBo gc r ρ s = bnd r (fun xs => fun _ s => match gc s xs with
  | some (.lst ds) => some (.ok (.own s.length) (s ++ [.lst ds]))
  | _ => none) ρ s := nrf rfl
@[simp] theorem c1_ap {q : Sto → D → Option D} : c1 q s [x] = q s x := nrf rfl
@[simp] theorem c2_ap {q : Sto → D → D → Option D} : c2 q s [x, y] = q s x y := nrf rfl
@[simp] theorem fCall_ap {m : FM} {r : M (List D)} : fCall n m r ρ s = bnd r (fun xs => fun _ s => if xs.length = n then m s xs else none) ρ s := nrf rfl
@[simp] theorem fCall0_ap {m : FM} : fCall0 m ρ s = m s [] := nrf rfl
@[simp] theorem fPart_ap : fPart f ρ s = bnd f (fun x => got fun _ => match x with
  | .int i => some (some i)
  | _ => none) ρ s := nrf rfl
@[simp] theorem fSl_ap {lo hi : M (Option Int)} : fSl f lo hi ρ s = bnd f (fun x => bnd lo fun l => bnd hi fun h => got fun s => slD s x l h) ρ s := nrf rfl
@[simp] theorem fSrc_ap : fSrc f ρ s = bnd f (fun x => got fun s => srcA s x) ρ s := nrf rfl
@[simp] theorem fRng1_ap : fRng1 f ρ s = bnd f (fun x => got fun _ => match x with
  | .int j => if smallI j = true then some (rngD 0 j.toNat, none) else none
  | _ => none) ρ s := nrf rfl
@[simp] theorem fRng2_ap : fRng2 f g ρ s = bnd f (fun x => bnd g fun y => got fun _ => match x, y with
  | .int i, .int j => if smallI i = true ∧ smallI j = true then some (rngD i (j - i).toNat, none) else none
  | _, _ => none) ρ s := nrf rfl
theorem fLc_ap {fi : M Src} {gt : D → Rho → Option Rho} {ft : M Bool} {fe : M D} {vs : List Nat} : fLc fi gt ft fe vs ρ s = bnd fi (fun z => fun ρ s => if z.1.length ≤ LIM then match lcL gt ft fe z.2 (wipeD ρ vs) z.1 s with
  | some (ys, s') => some (.ok (.lst ys) s')
  | none => none
  else none) ρ s := nrf rfl
@[simp] theorem wipeD_nil : wipeD ρ [] = ρ := nrf rfl
@[simp] theorem wipeD_cons {v : Nat} {vs : List Nat} : wipeD ρ (v :: vs) = (wipeD ρ vs).set v none := nrf rfl
/-! statements -/
@[simp] theorem bndS_ap {a : M α} {k : α → MS} : bndS a k ρ s = match a ρ s with
  | some (.ok x s1) => k x ρ s1
  | some (.ex e s1) => some (.ex e ρ s1)
  | none => none := nrf rfl
@[simp] theorem fNx_ap : fNx ρ s = some (.nx ρ s) := nrf rfl
def sq (g : MS) : Option Out → Option Out
  | some (.nx ρ s) => g ρ s
  | r => r
@[simp] theorem sq_nx {g : MS} : sq g (some (.nx ρ s)) = g ρ s := nrf rfl
@[simp] theorem sq_rt {g : MS} : sq g (some (.rt d s)) = some (.rt d s) := nrf rfl
@[simp] theorem sq_bk {g : MS} : sq g (some (.bk ρ s)) = some (.bk ρ s) := nrf rfl
@[simp] theorem sq_ct {g : MS} : sq g (some (.ct ρ s)) = some (.ct ρ s) := nrf rfl
@[simp] theorem sq_ex {g : MS} : sq g (some (.ex e ρ s)) = some (.ex e ρ s) := nrf rfl
@[simp] theorem sq_none {g : MS} : sq g none = none := nrf rfl
@[simp] theorem fSeq_ap {f g : MS} : fSeq f g ρ s = sq g (f ρ s) := nrf rfl
@[simp] theorem fRet_ap : fRet f ρ s = bndS f (fun x _ s => some (.rt x s)) ρ s := nrf rfl
@[simp] theorem fRetN_ap : fRetN ρ s = some (.rt .non s) := nrf rfl
@[simp] theorem fBk_ap : fBk ρ s = some (.bk ρ s) := nrf rfl
@[simp] theorem fCt_ap : fCt ρ s = some (.ct ρ s) := nrf rfl
@[simp] theorem fIfS_ap {f1 f2 : MS} : fIfS t f1 f2 ρ s = bndS t (fun b => if b = true then f1 else f2) ρ s := nrf rfl
@[simp] theorem fDrop_ap : fDrop f ρ s = bndS f (fun _ ρ s => some (.nx ρ s)) ρ s := nrf rfl
@[simp] theorem fAsg_ap {gt : D → Rho → Option Rho} : fAsg f gt ρ s = bndS f (fun x ρ s => (gt x ρ).map fun ρ1 => .nx ρ1 s) ρ s := nrf rfl
@[simp] theorem gNm_ap : gNm n d ρ = some (ρ.set n (some d)) := nrf rfl
@[simp] theorem gNl_ap : gNl [] ρ = some ρ := nrf rfl
@[simp] theorem gCn_ap {gt : D → Rho → Option Rho} {gs : List D → Rho → Option Rho} : gCn gt gs (d :: ds) ρ = match gt d ρ with
  | some ρ1 => gs ds ρ1
  | none => none := nrf rfl
@[simp] theorem gTp_ap {gs : List D → Rho → Option Rho} : gTp n gs (.tup ds) ρ = if ds.length = n then gs ds ρ else none := nrf rfl
@[simp] theorem fPar_ap {i j : Nat} {r : M (List D)} : fPar i j r ρ s = bndS r (fun xs ρ s => match xs with
  | [x, y] => some (.nx ((ρ.set i (some x)).set j (some y)) s)
  | _ => none) ρ s := nrf rfl
@[simp] theorem fAug_ap : fAug n gg f ρ s = match ρ[n]? with
  | some (some x) => bndS f (fun y ρ s => (gg s x y).map fun z => .nx (ρ.set n (some z)) s) ρ s
  | _ => none := nrf rfl
@[simp] theorem fSub_ap : fSub f g h ρ s = bndS f (fun v => bndS g fun o => bndS h fun i ρ s => (putD s o i v).map fun s1 => .nx ρ s1) ρ s := nrf rfl
@[simp] theorem fSubD_ap : fSubD f g h ρ s = bndS f (fun v => bndS g fun o => bndS h fun i ρ s => (dputD s o i v).map fun s1 => .nx ρ s1) ρ s := nrf rfl
@[simp] theorem fOL_ap : fOL f ρ s = bnd f (fun x => got fun s => if isOL s x = true then some x else none) ρ s := nrf rfl
@[simp] theorem fApp_ap : fApp f g ρ s = bnd f (fun o => bnd g fun v => fun _ s => (appD s o v).map fun s1 => .ok .non s1) ρ s := nrf rfl
@[simp] theorem fFor_ap {fi : M Src} {gt : D → Rho → Option Rho} {fb : MS} : fFor fi gt fb ρ s = bndS fi (fun z => forL gt fb z.2 z.1) ρ s := nrf rfl
@[simp] theorem fRaise_ap : fRaise c f ρ s = bndS f (fun x ρ s => some (.ex ⟨c, x⟩ ρ s)) ρ s := nrf rfl
def tryA (h : Hd) : Option Out → Option Out
  | some (.ex e ρ1 s1) => h e ρ1 s1
  | o => o
@[simp] theorem tryA_ex {h : Hd} : tryA h (some (.ex e ρ s)) = h e ρ s := nrf rfl
@[simp] theorem tryA_nx {h : Hd} : tryA h (some (.nx ρ s)) = some (.nx ρ s) := nrf rfl
@[simp] theorem tryA_rt {h : Hd} : tryA h (some (.rt d s)) = some (.rt d s) := nrf rfl
@[simp] theorem tryA_bk {h : Hd} : tryA h (some (.bk ρ s)) = some (.bk ρ s) := nrf rfl
@[simp] theorem tryA_ct {h : Hd} : tryA h (some (.ct ρ s)) = some (.ct ρ s) := nrf rfl
@[simp] theorem fTry_ap {fb : MS} {h : Hd} : fTry fb h ρ s = tryA h (fb ρ s) := nrf rfl
@[simp] theorem hEnd_ap : hEnd e ρ s = some (.ex e ρ s) := nrf rfl
@[simp] theorem hNo_ap {tab : List (Nat × Bool)} {q : Exn → MS} {r : Hd} : hNo tab q r e ρ s = match tab.lookup e.c with
  | some true => match q e ρ s with
    | some (.ex _ _ _) => none
    | o => o
  | some false => r e ρ s
  | none => none := nrf rfl
@[simp] theorem hAs_ap {i : Nat} {tab : List (Nat × Bool)} {q : Exn → MS} {r : Hd} : hAs i tab q r e ρ s = match tab.lookup e.c with
  | some true => if i < ρ.length then match q e (ρ.set i none) s with
    | some (.nx ρ1 s1) => some (.nx (ρ1.set i none) s1)
    | some (.bk ρ1 s1) => some (.bk (ρ1.set i none) s1)
    | some (.ct ρ1 s1) => some (.ct (ρ1.set i none) s1)
    | some (.rt d s1) => some (.rt d s1)
    | _ => none
    else none
  | some false => r e ρ s
  | none => none := nrf rfl
theorem fWhile_ap {fb : MS} : fWhile t fb (n + 1) ρ s = match t ρ s with
    | some (.ok true s1) => match fb ρ s1 with
      | some (.nx ρ2 s2) => fWhile t fb n ρ2 s2
      | some (.ct ρ2 s2) => fWhile t fb n ρ2 s2
      | some (.bk ρ2 s2) => some (.nx ρ2 s2)
      | some (.rt d s2) => some (.rt d s2)
      | some (.ex e ρ2 s2) => some (.ex e ρ2 s2)
      | none => none
    | some (.ok false s1) => some (.nx ρ s1)
    | some (.ex e s1) => some (.ex e ρ s1)
    | none => none := nrf rfl
theorem forL_cons {gt : D → Rho → Option Rho} {fb : MS} {ck : Option (Nat × List D)} : forL gt fb ck (d :: ds) ρ s = if chk ck s = true then match gt d ρ with
    | some ρ1 => match fb ρ1 s with
      | some (.nx ρ2 s2) => forL gt fb ck ds ρ2 s2
      | some (.ct ρ2 s2) => forL gt fb ck ds ρ2 s2
      | some (.bk ρ2 s2) => some (.nx ρ2 s2)
      | some (.rt d s2) => some (.rt d s2)
      | some (.ex e ρ2 s2) => some (.ex e ρ2 s2)
      | none => none
    | none => none
    else none := nrf rfl
theorem forL_nil {gt : D → Rho → Option Rho} {fb : MS} {ck : Option (Nat × List D)} : forL gt fb ck [] ρ s = if chk ck s = true then some (.nx ρ s) else none := nrf rfl
theorem lcL_cons {gt : D → Rho → Option Rho} {ft : M Bool} {fe : M D} {ck : Option (Nat × List D)} : lcL gt ft fe ck ρ (d :: ds) s = if chk ck s = true then match gt d ρ with
    | some ρ1 => match ft ρ1 s with
      | some (.ok true s1) => match fe ρ1 s1 with
        | some (.ok y s2) => match lcL gt ft fe ck ρ ds s2 with
          | some (ys, s3) => some (y :: ys, s3)
          | none => none
        | _ => none
      | some (.ok false s1) => lcL gt ft fe ck ρ ds s1
      | _ => none
    | none => none
    else none := nrf rfl
theorem lcL_nil {gt : D → Rho → Option Rho} {ft : M Bool} {fe : M D} {ck : Option (Nat × List D)} : lcL gt ft fe ck ρ [] s = if chk ck s = true then some ([], s) else none := nrf rfl
theorem clL_cons {γ : Type} {gt : D → Rho → Option Rho} {ft : M Bool} {bd : Rho → γ → Sto → Option (γ × Sto)} {ck : Option (Nat × List D)} {b : γ} : clL gt ft bd ck ρ (d :: ds) b s = if chk ck s = true then match gt d ρ with
      | some ρ1 => match ft ρ1 s with
        | some (.ok true s1) => match bd ρ1 b s1 with
          | some (b2, s2) => clL gt ft bd ck ρ ds b2 s2
          | none => none
        | some (.ok false s1) => clL gt ft bd ck ρ ds b s1
        | _ => none
      | none => none
    else none := nrf rfl
theorem clL_nil {γ : Type} {gt : D → Rho → Option Rho} {ft : M Bool} {bd : Rho → γ → Sto → Option (γ × Sto)} {ck : Option (Nat × List D)} {b : γ} : clL gt ft bd ck ρ [] b s = if chk ck s = true then some (b, s) else none := nrf rfl
@[simp] theorem chk_none : chk none s = true := nrf rfl
/-! instances -/
@[simp] theorem fFld_ap : fFld n f ρ s = bnd f (fun x => got fun s => (insD s x).bind fun q => getN n q.2.1 q.2.2) ρ s := nrf rfl
@[simp] theorem fSetF_ap {fo fv : M D} : fSetF c n fo fv ρ s = bndS fv (fun v => bndS fo fun o ρ s => (setF c s o n v).map fun s1 => .nx ρ s1) ρ s := nrf rfl
@[simp] theorem fCl_ap : fCl c f ρ s = bnd f (fun x => got fun s => (insD s x).bind fun q => if q.1 = c then some x else none) ρ s := by
  unfold fCl bnd got
  cases f ρ s with
  | none => rfl
  | some r => cases r with
    | ex e s1 => rfl
    | ok x s1 =>
      dsimp only
      cases insD s1 x with
      | none => rfl
      | some q => rfl
@[simp] theorem fMeth_ap {m : FM} {fo : M D} {r : M (List D)} : fMeth c n m fo r ρ s = bnd (fCl c fo) (fun o => bnd r fun xs => fun _ s => if xs.length = n then m s (o :: xs) else none) ρ s := nrf rfl
@[simp] theorem fMeth0_ap {m : FM} {fo : M D} : fMeth0 c m fo ρ s = bnd (fCl c fo) (fun o => fun _ s => m s [o]) ρ s := nrf rfl
@[simp] theorem insD_ins : insD s (.ins c ns vs) = some (c, ns, vs) := nrf rfl
def insO : Option SO → Option (Nat × List Nat × List D)
  | some (.ins c ns vs) => some (c, ns, vs)
  | _ => none
@[simp] theorem insO_ins : insO (some (.ins c ns vs)) = some (c, ns, vs) := nrf rfl
@[simp] theorem insD_own : insD s (.own l) = insO s[l]? := by
  show (match s[l]? with
    | some (.ins c ns vs) => some (c, ns, vs)
    | _ => none) = _
  generalize s[l]? = o
  cases o with
  | none => rfl
  | some o => cases o <;> rfl
@[simp] theorem getN_same : getN n (n :: ns) (d :: ds) = some d := by simp [getN]
theorem getN_cons {m : Nat} : getN n (m :: ns) (d :: ds) = if m = n then some d else getN n ns ds := nrf rfl
@[simp] theorem getN_lit {a b : Nat} : getN (no_index (OfNat.ofNat a)) ((no_index (OfNat.ofNat b)) :: ns) (d :: ds) = if b = a then some d else getN (no_index (OfNat.ofNat a)) ns ds := nrf rfl
theorem putN_cons {m : Nat} : putN n d (m :: ns) (x :: ds) = if m = n then (m :: ns, d :: ds) else ((m :: (putN n d ns ds).1), (x :: (putN n d ns ds).2)) := nrf rfl
theorem putN_nil : putN n d [] [] = ([n], [d]) := nrf rfl
theorem setF_own {v : D} : setF c s (.own l) n v = match s[l]? with
    | some (.ins c' ns vs) => if c' = c ∧ ns.length < 900 then some (s.set l (.ins c' (putN n v ns vs).1 (putN n v ns vs).2)) else none
    | _ => none := nrf rfl
@[simp] theorem fOpM_ap {q : Sto → D → D → Option (D × Sto)} : fOpM q fa fb ρ s = bnd fa (fun x => bnd fb fun y => fun _ s => (q s x y).map fun z => .ok z.1 z.2) ρ s := nrf rfl
theorem eqI_ap {neg : Bool} {m : FM} : eqI neg c m s x y = match insD s x, insD s y with
  | some (c1, _, _), some (c2, _, _) => if c1 = c ∧ c2 = c then match m s [x, y] with
    | some (.ok (.bl b) s') => some (.bl (b != neg), s')
    | _ => none
    else none
  | _, _ => none := nrf rfl
/-! values -/
@[simp] theorem truD_bl {b : Bool} : truD s (.bl b) = some b := nrf rfl
@[simp] theorem truD_int : truD s (.int i) = some (i != 0) := nrf rfl
@[simp] theorem truD_non : truD s .non = some false := nrf rfl
@[simp] theorem truD_lst : truD s (.lst ds) = some (!ds.isEmpty) := nrf rfl
@[simp] theorem truD_tup : truD s (.tup ds) = some (!ds.isEmpty) := nrf rfl
@[simp] theorem subD_int : subD s (.int i) (.int j) = some (.int (i - j)) := nrf rfl
@[simp] theorem andD_int : andD s (.int i) (.int j) = some (.int (Builtin.bitAnd i j)) := nrf rfl
@[simp] theorem orD_int : orD s (.int i) (.int j) = some (.int (Builtin.bitOr i j)) := nrf rfl
@[simp] theorem xorD_int : xorD s (.int i) (.int j) = some (.int (Builtin.bitXor i j)) := nrf rfl
@[simp] theorem ltD_int : ltD s (.int i) (.int j) = some (.bl (decide (i < j))) := nrf rfl
@[simp] theorem leD_int : leD s (.int i) (.int j) = some (.bl (decide (i ≤ j))) := nrf rfl
@[simp] theorem gtD_int : gtD s (.int i) (.int j) = some (.bl (decide (j < i))) := nrf rfl
@[simp] theorem geD_int : geD s (.int i) (.int j) = some (.bl (decide (j ≤ i))) := nrf rfl
@[simp] theorem i2_int {q : Int → Int → Option D} : i2 q s (.int i) (.int j) = q i j := nrf rfl
@[simp] theorem addD_int : addD s (.int i) (.int j) = some (.int (i + j)) := nrf rfl
@[simp] theorem addD_str {a b : Str} : addD s (.str a) (.str b) = if a.length + b.length ≤ LIM then some (.str (a ++ b)) else none := nrf rfl
@[simp] theorem addI_int : addI s (.int i) (.int j) = some (.int (i + j)) := nrf rfl
@[simp] theorem addD_tup : addD s (.tup ds) (.tup es) = if ds.length + es.length ≤ LIM then some (.tup (ds ++ es)) else none := nrf rfl
@[simp] theorem addD_lst : addD s (.lst ds) (.lst es) = if ds.length + es.length ≤ LIM then some (.lst (ds ++ es)) else none := nrf rfl
@[simp] theorem mulD_int : mulD s (.int i) (.int j) = mulI i j := nrf rfl
@[simp] theorem mulD_lst : mulD s (.lst ds) (.int i) = if smallI i = true ∧ ds.length * i.toNat ≤ LIM then some (.lst (List.replicate i.toNat ds).flatten) else none := nrf rfl
@[simp] theorem mulU_int : mulU s (.int i) (.int j) = mulI i j := by
  unfold mulU
  rw [mulD_int, show mulT s (.int i) (.int j) = none from rfl, Option.or_none]
@[simp] theorem mulU_lst : mulU s (.lst ds) (.int i) = if smallI i = true ∧ ds.length * i.toNat ≤ LIM then some (.lst (List.replicate i.toNat ds).flatten) else none := by
  unfold mulU
  rw [mulD_lst, show mulT s (.lst ds) (.int i) = none from rfl, Option.or_none]
@[simp] theorem mulU_tup : mulU s (.tup ds) (.int i) = if -1000 ≤ i ∧ i ≤ 1000 ∧ ds.length ≤ 1000 then some (.tup (List.replicate i.toNat ds).flatten) else none := by
  unfold mulU
  rw [show mulD s (.tup ds) (.int i) = none from rfl, Option.none_or]
  exact nrf rfl
@[simp] theorem negD_int : negD (.int i) = some (.int (-i)) := nrf rfl
@[simp] theorem isN_non : isN s x .non = some (.bl (isNone x)) := nrf rfl
@[simp] theorem isNN_non : isNN s x .non = some (.bl (!isNone x)) := nrf rfl
@[simp] theorem isNone_non : isNone .non = true := nrf rfl
@[simp] theorem isNone_int : isNone (.int i) = false := nrf rfl
@[simp] theorem isNone_bl {b : Bool} : isNone (.bl b) = false := nrf rfl
@[simp] theorem isNone_str {b : Str} : isNone (.str b) = false := nrf rfl
@[simp] theorem isNone_tup : isNone (.tup ds) = false := nrf rfl
@[simp] theorem isNone_lst : isNone (.lst ds) = false := nrf rfl
@[simp] theorem isNone_lck : isNone (.lck ds) = false := nrf rfl
@[simp] theorem isNone_own : isNone (.own l) = false := nrf rfl
@[simp] theorem isNone_ins : isNone (.ins c ns ds) = false := nrf rfl
/-- the list of an owned object -/
def lstO : Option SO → Option (List D)
  | some (.lst ds) => some ds
  | _ => none
@[simp] theorem lstO_lst : lstO (some (.lst ds)) = some ds := nrf rfl
theorem lstAt_eq : lstAt s l = lstO s[l]? := by
  unfold lstAt
  cases s[l]? with
  | none => rfl
  | some o => cases o <;> rfl
@[simp] theorem ixD_own : ixD s (.own l) (.int i) = (lstO s[l]?).bind fun ds => atI ds i := by rw [← lstAt_eq]; exact nrf rfl
@[simp] theorem ixD_lst : ixD s (.lst ds) (.int i) = atI ds i := nrf rfl
@[simp] theorem ixD_lck : ixD s (.lck ds) (.int i) = atI ds i := nrf rfl
@[simp] theorem ixD_tup : ixD s (.tup ds) (.int i) = atI ds i := nrf rfl
@[simp] theorem lenD_lst : lenD s (.lst ds) = some (.int ds.length) := nrf rfl
@[simp] theorem lenD_lck : lenD s (.lck ds) = some (.int ds.length) := nrf rfl
@[simp] theorem lenD_tup : lenD s (.tup ds) = some (.int ds.length) := nrf rfl
@[simp] theorem lenD_own : lenD s (.own l) = (lstO s[l]?).map fun ds => .int ds.length := by rw [← lstAt_eq]; exact nrf rfl
@[simp] theorem tupleD_lst : tupleD s (.lst ds) = some (.tup ds) := nrf rfl
@[simp] theorem tupleD_tup : tupleD s (.tup ds) = some (.tup ds) := nrf rfl
@[simp] theorem tupleD_own : tupleD s (.own l) = (lstO s[l]?).map .tup := by rw [← lstAt_eq]; exact nrf rfl
@[simp] theorem listD_lst : listD s (.lst ds) = some (.lst ds) := nrf rfl
@[simp] theorem listD_lck : listD s (.lck ds) = some (.lst ds) := nrf rfl
@[simp] theorem listD_tup : listD s (.tup ds) = some (.lst ds) := nrf rfl
@[simp] theorem listD_own : listD s (.own l) = (lstO s[l]?).map .lst := by rw [← lstAt_eq]; exact nrf rfl
@[simp] theorem absD_int : absD s (.int i) = some (.int (if i < 0 then -i else i)) := nrf rfl
@[simp] theorem intD_int : intD s (.int i) = some (.int i) := nrf rfl
@[simp] theorem intD_bl {b : Bool} : intD s (.bl b) = some (.int (if b then 1 else 0)) := nrf rfl
@[simp] theorem max2D_int : max2D s (.int i) (.int j) = some (.int (if j > i then j else i)) := nrf rfl
@[simp] theorem min2D_int : min2D s (.int i) (.int j) = some (.int (if j < i then j else i)) := nrf rfl
@[simp] theorem strD_int : strD s (.int i) = if strI i = true then some (.str (istr i)) else none := nrf rfl
@[simp] theorem slD_tup {lo hi : Option Int} : slD s (.tup ds) lo hi = some (.tup (cutD ds lo hi)) := nrf rfl
@[simp] theorem slD_lst {lo hi : Option Int} : slD s (.lst ds) lo hi = some (.lst (cutD ds lo hi)) := nrf rfl
@[simp] theorem slD_own {lo hi : Option Int} : slD s (.own l) lo hi = (lstO s[l]?).map fun ds => .lst (cutD ds lo hi) := by rw [← lstAt_eq]; exact nrf rfl
@[simp] theorem srcA_lst : srcA s (.lst ds) = some (ds, none) := nrf rfl
@[simp] theorem srcA_tup : srcA s (.tup ds) = some (ds, none) := nrf rfl
@[simp] theorem srcA_lck : srcA s (.lck ds) = some (ds, none) := nrf rfl
@[simp] theorem srcA_own : srcA s (.own l) = (lstO s[l]?).map fun ds => (ds, some (l, ds)) := by rw [← lstAt_eq]; exact nrf rfl
theorem putD_own {v : D} : putD s (.own l) (.int i) v = match lstO s[l]? with
    | some ds => match ixN ds.length i with
      | some j => some (s.set l (.lst (ds.set j v)))
      | none => none
    | none => none := by rw [← lstAt_eq]; exact nrf rfl
@[simp] theorem isOL_own : isOL s (.own l) = (lstO s[l]?).isSome := by rw [← lstAt_eq]; exact nrf rfl
theorem appD_own {v : D} : appD s (.own l) v = match lstO s[l]? with
    | some ds => if ds.length < LIM then some (s.set l (.lst (ds ++ [v]))) else none
    | none => none := by rw [← lstAt_eq]; exact nrf rfl
@[simp] theorem eqD_int : eqD s (.int i) (.int j) = some (.bl (decide (i = j))) := nrf rfl
@[simp] theorem eqD_bl {a b : Bool} : eqD s (.bl a) (.bl b) = some (.bl (decide (a = b))) := nrf rfl
@[simp] theorem eqD_str {a b : Str} : eqD s (.str a) (.str b) = some (.bl (decide (a = b))) := nrf rfl
@[simp] theorem neD_int : neD s (.int i) (.int j) = some (.bl (!decide (i = j))) := nrf rfl
@[simp] theorem neD_bl {a b : Bool} : neD s (.bl a) (.bl b) = some (.bl (!decide (a = b))) := nrf rfl
@[simp] theorem neD_str {a b : Str} : neD s (.str a) (.str b) = some (.bl (!decide (a = b))) := nrf rfl
/-! kinds -/
@[simp] theorem isT_non {T : TN} : isT T s .non = some (isN' T "NoneType") := nrf rfl
@[simp] theorem isT_bl {T : TN} {b : Bool} : isT T s (.bl b) = some (isN' T "bool") := nrf rfl
@[simp] theorem isT_int {T : TN} : isT T s (.int i) = some (isN' T "int") := nrf rfl
@[simp] theorem isT_str {T : TN} {b : Str} : isT T s (.str b) = some (isN' T "str") := nrf rfl
@[simp] theorem isT_lst {T : TN} : isT T s (.lst ds) = some (isN' T "list") := nrf rfl
@[simp] theorem isT_lck {T : TN} : isT T s (.lck ds) = some (isN' T "list") := nrf rfl
@[simp] theorem isT_tup {T : TN} : isT T s (.tup ds) = some (isN' T "tuple") := nrf rfl
@[simp] theorem isT_dct {T : TN} {b : Bool} : isT T s (.dct b ks vs) = some (isN' T "dict") := nrf rfl
@[simp] theorem isT_ins {T : TN} : isT T s (.ins c ns ds) = some false := nrf rfl
def tyO : Option SO → Option String
  | some (.lst _) => some "list"
  | some (.dct _ _ _) => some "dict"
  | _ => none
def isTO (T : TN) : Option SO → Option Bool
  | some (.lst _) => some (isN' T "list")
  | some (.dct _ _ _) => some (isN' T "dict")
  | some (.ins _ _ _) => some false
  | _ => none
@[simp] theorem isTO_lst {T : TN} : isTO T (some (.lst ds)) = some (isN' T "list") := nrf rfl
@[simp] theorem isTO_dct {T : TN} {b : Bool} : isTO T (some (.dct b ks vs)) = some (isN' T "dict") := nrf rfl
@[simp] theorem isTO_ins {T : TN} : isTO T (some (.ins c ns vs)) = some false := nrf rfl
@[simp] theorem isT_own {T : TN} : isT T s (.own l) = isTO T s[l]? := by
  have h1 : tyD s (.own l) = tyO s[l]? := by
    show (match s[l]? with
      | some (.lst _) => some "list"
      | some (.dct _ _ _) => some "dict"
      | _ => none) = _
    generalize s[l]? = o
    cases o with
    | none => rfl
    | some o => cases o <;> rfl
  have h2 : clD s (.own l) = (insO s[l]?).map (·.1) := by
    show (match s[l]? with
      | some (.ins c _ _) => some c
      | _ => none) = _
    generalize s[l]? = o
    cases o with
    | none => rfl
    | some o => cases o <;> rfl
  unfold isT
  rw [h1, h2]
  generalize s[l]? = o
  cases o with
  | none => rfl
  | some o => cases o <;> rfl
@[simp] theorem isCl_ins {tab : List (Nat × Bool)} : isCl tab s (.ins c ns ds) = tab.lookup c := nrf rfl
@[simp] theorem isCl_non {tab : List (Nat × Bool)} : isCl tab s .non = some false := nrf rfl
@[simp] theorem isCl_int {tab : List (Nat × Bool)} : isCl tab s (.int i) = some false := nrf rfl
@[simp] theorem isCl_str {tab : List (Nat × Bool)} {a : Str} : isCl tab s (.str a) = some false := nrf rfl
@[simp] theorem isCl_tup {tab : List (Nat × Bool)} : isCl tab s (.tup ds) = some false := nrf rfl
@[simp] theorem isCl_lst {tab : List (Nat × Bool)} : isCl tab s (.lst ds) = some false := nrf rfl
section

@[simp] theorem k_in : isN' .int "NoneType" = false := nrf (by decide)
@[simp] theorem k_ib : isN' .int "bool" = true := nrf (by decide)
@[simp] theorem k_ii : isN' .int "int" = true := nrf (by decide)
@[simp] theorem k_is' : isN' .int "str" = false := nrf (by decide)
@[simp] theorem k_il : isN' .int "list" = false := nrf (by decide)
@[simp] theorem k_it : isN' .int "tuple" = false := nrf (by decide)
@[simp] theorem k_id : isN' .int "dict" = false := nrf (by decide)
@[simp] theorem k_bn : isN' .bool "NoneType" = false := nrf (by decide)
@[simp] theorem k_bb : isN' .bool "bool" = true := nrf (by decide)
@[simp] theorem k_bi : isN' .bool "int" = false := nrf (by decide)
@[simp] theorem k_bs : isN' .bool "str" = false := nrf (by decide)
@[simp] theorem k_bl : isN' .bool "list" = false := nrf (by decide)
@[simp] theorem k_bt : isN' .bool "tuple" = false := nrf (by decide)
@[simp] theorem k_bd : isN' .bool "dict" = false := nrf (by decide)
@[simp] theorem k_sn : isN' .str "NoneType" = false := nrf (by decide)
@[simp] theorem k_sb : isN' .str "bool" = false := nrf (by decide)
@[simp] theorem k_si : isN' .str "int" = false := nrf (by decide)
@[simp] theorem k_ss : isN' .str "str" = true := nrf (by decide)
@[simp] theorem k_sl : isN' .str "list" = false := nrf (by decide)
@[simp] theorem k_st : isN' .str "tuple" = false := nrf (by decide)
@[simp] theorem k_sd : isN' .str "dict" = false := nrf (by decide)
@[simp] theorem k_ln : isN' .list "NoneType" = false := nrf (by decide)
@[simp] theorem k_lb : isN' .list "bool" = false := nrf (by decide)
@[simp] theorem k_li : isN' .list "int" = false := nrf (by decide)
@[simp] theorem k_ls : isN' .list "str" = false := nrf (by decide)
@[simp] theorem k_ll : isN' .list "list" = true := nrf (by decide)
@[simp] theorem k_lt : isN' .list "tuple" = false := nrf (by decide)
@[simp] theorem k_ld : isN' .list "dict" = false := nrf (by decide)
@[simp] theorem k_tn : isN' .tuple "NoneType" = false := nrf (by decide)
@[simp] theorem k_tb : isN' .tuple "bool" = false := nrf (by decide)
@[simp] theorem k_ti : isN' .tuple "int" = false := nrf (by decide)
@[simp] theorem k_ts : isN' .tuple "str" = false := nrf (by decide)
@[simp] theorem k_tl : isN' .tuple "list" = false := nrf (by decide)
@[simp] theorem k_tt : isN' .tuple "tuple" = true := nrf (by decide)
@[simp] theorem k_td : isN' .tuple "dict" = false := nrf (by decide)
end
/-! items at a place -/
theorem ixN_nat (n k : Nat) : ixN n (k : Int) = if k < n then some k else none := by
  unfold ixN
  rw [if_pos (by omega)]
  by_cases h : k < n
  · rw [if_pos (by omega), if_pos h]; simp
  · rw [if_neg (by omega), if_neg h]
@[simp] theorem ixN_lit (n k : Nat) : ixN n (no_index (OfNat.ofNat k) : Int) = if k < n then some k else none := ixN_nat n k
theorem atI_nat' {α : Type} (xs : List α) (k : Nat) : atI xs (k : Int) = xs[k]? := by
  unfold atI
  rw [ixN_nat]
  by_cases h : k < xs.length
  · rw [if_pos h]; rfl
  · rw [if_neg h, List.getElem?_eq_none (by omega)]; rfl
@[simp] theorem atI_lit' {α : Type} (xs : List α) (k : Nat) : atI xs (no_index (OfNat.ofNat k) : Int) = xs[k]? := atI_nat' xs k
theorem atI_pos {α : Type} (xs : List α) {i : Int} (h : 0 ≤ i) : atI xs i = xs[i.toNat]? := by
  have e : ((i.toNat : Nat) : Int) = i := by omega
  rw [← atI_nat', e]
end
/-! ### loops of a plain kind, in one step -/
section
variable {ρ : Rho} {s : Sto} {gt : D → Rho → Option Rho} {ft : M Bool} {fe : M D} {fb : MS} {lo : Int} {n : Nat} {ds : List D}
@[simp] theorem rngD_length : (rngD lo n).length = n := by
  unfold rngD
  rw [List.length_map, List.length_range]
theorem rngD_zero : rngD lo 0 = [] := rfl
theorem rngD_succ : rngD lo (n + 1) = .int lo :: rngD (lo + 1) n := by
  unfold rngD
  rw [List.range_succ_eq_map, List.map_cons, List.map_map]
  congr 1
  · simp
  · apply List.map_congr_left
    intro i _
    show D.int (lo + ((i + 1 : Nat) : Int)) = D.int (lo + 1 + (i : Int))
    congr 1
    omega
theorem mem_rngD {d : D} (h : d ∈ rngD lo n) : ∃ i : Nat, i < n ∧ d = .int (lo + (i : Int)) := by
  unfold rngD at h
  obtain ⟨i, hi, e⟩ := List.mem_map.mp h
  exact ⟨i, List.mem_range.mp hi, e.symm⟩
/-- a comprehension with a test: which items, what is made of each -/
theorem lcL_fm {p : D → Bool} {F : D → D} : ∀ {ds : List D}, (∀ d ∈ ds, ∃ ρ1, gt d ρ = some ρ1 ∧ ft ρ1 s = some (.ok (p d) s) ∧ (p d = true → fe ρ1 s = some (.ok (F d) s))) → lcL gt ft fe none ρ ds s = some ((ds.filter p).map F, s)
  | [], _ => by rw [lcL_nil, chk_none, if_pos rfl]; rfl
  | d :: ds, h => by
    obtain ⟨ρ1, h1, h2, h3⟩ := h d List.mem_cons_self
    rw [lcL_cons, chk_none, if_pos rfl, h1]
    have ih := lcL_fm fun e he => h e (List.mem_cons_of_mem _ he)
    cases hp : p d with
    | true => simp only [h2, hp, h3 hp, ih, List.filter_cons_of_pos hp, List.map_cons]
    | false => simp only [h2, hp, ih, List.filter_cons_of_neg (show ¬ p d = true by rw [hp]; decide)]
theorem lcL_none (h : ∀ d ∈ ds, ∃ ρ1, gt d ρ = some ρ1 ∧ ft ρ1 s = some (.ok false s)) : lcL gt ft fe none ρ ds s = some ([], s) := by
  rw [lcL_fm (p := fun _ => false) (F := id) fun d hd => by obtain ⟨ρ1, h1, h2⟩ := h d hd; exact ⟨ρ1, h1, h2, fun z => nomatch z⟩]
  rw [List.filter_eq_nil_iff.mpr fun _ _ z => by cases z]
  rfl
theorem lcL_map {F : D → D} (h : ∀ d ∈ ds, ∃ ρ1, gt d ρ = some ρ1 ∧ ft ρ1 s = some (.ok true s) ∧ fe ρ1 s = some (.ok (F d) s)) : lcL gt ft fe none ρ ds s = some (ds.map F, s) := by
  rw [lcL_fm (p := fun _ => true) (F := F) fun d hd => by obtain ⟨ρ1, h1, h2, h3⟩ := h d hd; exact ⟨ρ1, h1, h2, fun _ => h3⟩]
  rw [List.filter_eq_self.mpr fun _ _ => rfl]
theorem rng_map {β : Type} (F : Int → β) (lo : Int) (n : Nat) (F' : D → β) (h : ∀ i, F' (.int i) = F i) : (rngD lo n).map F' = (List.range n).map fun i : Nat => F (lo + (i : Int)) := by
  unfold rngD
  rw [List.map_map]
  exact List.map_congr_left fun i _ => h _
theorem lcL_rng {F : Nat → D} (h : ∀ i, i < n → ∃ ρ1, gt (.int (lo + (i : Int))) ρ = some ρ1 ∧ ft ρ1 s = some (.ok true s) ∧ fe ρ1 s = some (.ok (F i) s)) : lcL gt ft fe none ρ (rngD lo n) s = some ((List.range n).map F, s) := by
  rw [lcL_map (F := fun d => match d with | .int j => F (j - lo).toNat | _ => .non) fun d hd => ?_]
  · unfold rngD
    rw [List.map_map]
    congr 2
    apply List.map_congr_left
    intro i _
    show F (lo + (i : Int) - lo).toNat = F i
    congr 1
    omega
  · obtain ⟨i, hi, rfl⟩ := mem_rngD hd
    obtain ⟨ρ1, h1, h2, h3⟩ := h i hi
    refine ⟨ρ1, h1, h2, ?_⟩
    rw [h3]
    show _ = some (Res.ok (F (lo + (i : Int) - lo).toNat) s)
    rw [show (lo + (i : Int) - lo).toNat = i by omega]
/-- with a test -/
theorem lcL_if : ∀ {n : Nat} {lo : Int} {F : Nat → D} {p : Nat → Bool}, (∀ i, i < n → ∃ ρ1, gt (.int (lo + (i : Int))) ρ = some ρ1 ∧ ft ρ1 s = some (.ok (p i) s) ∧ (p i = true → fe ρ1 s = some (.ok (F i) s))) → lcL gt ft fe none ρ (rngD lo n) s = some (((List.range n).filter p).map F, s)
  | 0, _, _, _, _ => by rw [rngD_zero, lcL_nil, chk_none, if_pos rfl]; rfl
  | n + 1, lo, F, p, h => by
    obtain ⟨ρ1, h1, h2, h3⟩ := h 0 (Nat.succ_pos _)
    have e : lo + ((0 : Nat) : Int) = lo := by simp
    rw [e] at h1
    have ih := lcL_if (n := n) (lo := lo + 1) (F := fun i => F (i + 1)) (p := fun i => p (i + 1)) fun i hi => by
      have := h (i + 1) (Nat.succ_lt_succ hi)
      have e2 : lo + ((i + 1 : Nat) : Int) = lo + 1 + (i : Int) := by omega
      rwa [e2] at this
    rw [rngD_succ, lcL_cons, chk_none, if_pos rfl, h1]
    simp only [h2]
    have er : ((List.range (n + 1)).filter p).map F = (if p 0 = true then [F 0] else []) ++ ((List.range n).filter fun i => p (i + 1)).map fun i => F (i + 1) := by
      rw [List.range_succ_eq_map, List.filter_cons, List.filter_map]
      split
      · rw [List.map_cons, List.map_map]; rfl
      · rw [List.map_map]; rfl
    rw [er]
    cases hp : p 0 with
    | true =>
      simp only [h3 hp, ih, if_true]
      rfl
    | false =>
      simp only [ih, Bool.false_eq_true, if_false]
      rfl
/-- the store changes from item to item: I the store ahead of the i-th -/
theorem lcL_st {I : Nat → Sto} {F : Nat → D} : ∀ {ds : List D} {k : Nat}, (∀ i (hi : i < ds.length), ∃ ρ1, gt ds[i] ρ = some ρ1 ∧ ft ρ1 (I (k + i)) = some (.ok true (I (k + i))) ∧ fe ρ1 (I (k + i)) = some (.ok (F (k + i)) (I (k + i + 1)))) →
    lcL gt ft fe none ρ ds (I k) = some ((List.range ds.length).map (fun i => F (k + i)), I (k + ds.length))
  | [], k, _ => by rw [lcL_nil, chk_none, if_pos rfl]; rfl
  | d :: ds, k, h => by
    obtain ⟨ρ1, h1, h2, h3⟩ := h 0 (Nat.succ_pos _)
    rw [lcL_cons, chk_none, if_pos rfl]
    have h1' : gt d ρ = some ρ1 := h1
    have h2' : ft ρ1 (I k) = some (.ok true (I k)) := h2
    have h3' : fe ρ1 (I k) = some (.ok (F k) (I (k + 1))) := h3
    have ih := lcL_st (I := I) (F := F) (ds := ds) (k := k + 1) fun i hi => by
      have := h (i + 1) (Nat.succ_lt_succ hi)
      rw [show k + 1 + i = k + (i + 1) by omega]
      exact this
    simp only [h1', h2', h3', ih, List.length_cons, List.range_succ_eq_map, List.map_cons, List.map_map]
    congr 2
    · congr 1
      apply List.map_congr_left
      intro i _
      show F (k + 1 + i) = F (k + (i + 1))
      congr 1
      omega
    · congr 1
      omega
/-- a for, by the names and the store behind each turn -/
theorem forL_inv {I : Nat → Rho × Sto} : ∀ {ds : List D} {k : Nat}, (∀ i (hi : i < ds.length), ∃ ρ1, gt ds[i] (I (k + i)).1 = some ρ1 ∧ fb ρ1 (I (k + i)).2 = some (.nx (I (k + i + 1)).1 (I (k + i + 1)).2)) → forL gt fb none ds (I k).1 (I k).2 = some (.nx (I (k + ds.length)).1 (I (k + ds.length)).2)
  | [], k, _ => by rw [forL_nil, chk_none, if_pos rfl]; rfl
  | d :: ds, k, h => by
    obtain ⟨ρ1, h1, h2⟩ := h 0 (Nat.succ_pos _)
    have h1' : gt d (I k).1 = some ρ1 := h1
    have h2' : fb ρ1 (I k).2 = some (.nx (I (k + 1)).1 (I (k + 1)).2) := h2
    have ih := forL_inv (I := I) (ds := ds) (k := k + 1) fun i hi => by
      have := h (i + 1) (Nat.succ_lt_succ hi)
      rw [show k + 1 + i = k + (i + 1) by omega]
      exact this
    rw [forL_cons, chk_none, if_pos rfl, h1']
    simp only [h2', ih, List.length_cons]
    rw [show k + 1 + ds.length = k + (ds.length + 1) by omega]
/-- a for over a range, by the names behind each turn -/
theorem forL_rng : ∀ {n : Nat} {lo : Int} {I : Nat → Rho}, (∀ i, i < n → ∃ ρ1, gt (.int (lo + (i : Int))) (I i) = some ρ1 ∧ fb ρ1 s = some (.nx (I (i + 1)) s)) → forL gt fb none (rngD lo n) (I 0) s = some (.nx (I n) s)
  | 0, _, _, _ => by rw [rngD_zero, forL_nil, chk_none, if_pos rfl]
  | n + 1, lo, I, h => by
    obtain ⟨ρ1, h1, h2⟩ := h 0 (Nat.succ_pos _)
    have e : lo + ((0 : Nat) : Int) = lo := by simp
    rw [e] at h1
    have ih := forL_rng (n := n) (lo := lo + 1) (I := fun i => I (i + 1)) fun i hi => by
      have := h (i + 1) (Nat.succ_lt_succ hi)
      have e2 : lo + ((i + 1 : Nat) : Int) = lo + 1 + (i : Int) := by omega
      rwa [e2] at this
    rw [rngD_succ, forL_cons, chk_none, if_pos rfl, h1]
    simp only [h2]
    exact ih
end
@[simp] theorem blsD_map {α : Type} : ∀ (l : List α) (f : α → Bool), blsD (l.map fun x => D.bl (f x)) = some (l.map f)
  | [], f => rfl
  | a :: l, f => by simp only [List.map_cons, blsD, blsD_map l f, Option.map_some]
@[simp] theorem intsD_mapF {α : Type} : ∀ (l : List α) (f : α → Int), intsD (l.map fun x => D.int (f x)) = some (l.map f)
  | [], f => rfl
  | a :: l, f => by simp only [List.map_cons, intsD, intsD_mapF l f, Option.map_some]
theorem lows_int (n : Nat) : ∀ ns : List Int, lows n (ns.map D.int) = true
  | [] => rfl
  | a :: ns => by simp only [List.map_cons, lows, low, lows_int n ns, Bool.and_self]
theorem shlI_nat {i : Int} {k : Nat} (h0 : 0 ≤ i) (h1 : i ≤ 1000000000000) (h2 : k ≤ 1000000) : shlI i (k : Int) = some (.int (i * 2 ^ k)) := by
  unfold shlI
  rw [if_pos (shOk_of h0 h1 (by omega) (by omega))]
  rfl
@[simp] theorem shlI_one {k : Nat} (h2 : k ≤ 1000000) : shlI 1 (k : Int) = some (.int (2 ^ k)) := by
  rw [shlI_nat (by decide) (by decide) h2, Int.one_mul]
@[simp] theorem shlI_lit (a k : Nat) (h1 : a ≤ 1000000000000) (h2 : k ≤ 1000000) : shlI (no_index (OfNat.ofNat a) : Int) (no_index (OfNat.ofNat k) : Int) = some (.int (OfNat.ofNat a * 2 ^ k)) :=
  shlI_nat (i := (a : Int)) (k := k) (by omega) (by omega) h2
@[simp] theorem shrI_nat (i : Int) (k : Nat) : shrI i (k : Int) = some (.int (i / 2 ^ k)) := by
  unfold shrI
  rw [if_pos (by omega)]
  rfl
/-! ### what a def hands back -/
/-- a store that no owned object points out of -/
def Low (s : Sto) : Prop := s.all (lowS s.length) = true
theorem fin_low {s : Sto} {d : D} {kp : Bool} (hs : Low s) (hd : low s.length d = true) : fin kp s.length d s = some (.ok d s) := by
  unfold fin
  rw [List.take_length, if_pos (show s.all (lowS s.length) = true from hs)]
  cases d with
  | own l =>
    have : l < s.length := by simpa only [low, decide_eq_true_eq] using hd
    simp only [this, if_true]
  | _ => simp only [hd, if_true]
theorem finX_low {s : Sto} {e : Exn} (hs : Low s) (hd : low s.length e.p = true) : finX s.length e s = some (.ex e s) := by
  unfold finX
  rw [List.take_length, if_pos ⟨show s.all (lowS s.length) = true from hs, hd⟩]
/-- nothing within is owned -/
def frD (d : D) : Bool := low 0 d
mutual
theorem low_mono {m n : Nat} (h : m ≤ n) : ∀ d : D, low m d = true → low n d = true
  | .own l, e => by simp only [low, decide_eq_true_eq] at e ⊢; omega
  | .lst ds, e => by simp only [low] at e ⊢; exact lows_mono h ds e
  | .tup ds, e => by simp only [low] at e ⊢; exact lows_mono h ds e
  | .lck ds, e => by simp only [low] at e ⊢; exact lows_mono h ds e
  | .ins _ _ ds, e => by simp only [low] at e ⊢; exact lows_mono h ds e
  | .dct _ _ ds, e => by simp only [low] at e ⊢; exact lows_mono h ds e
  | .non, _ => rfl
  | .bl _, _ => rfl
  | .int _, _ => rfl
  | .str _, _ => rfl
  | .set _ _, _ => rfl
  | .fn _, _ => rfl
theorem lows_mono {m n : Nat} (h : m ≤ n) : ∀ ds : List D, lows m ds = true → lows n ds = true
  | [], _ => rfl
  | d :: ds, e => by
    simp only [lows, Bool.and_eq_true] at e ⊢
    exact ⟨low_mono h d e.1, lows_mono h ds e.2⟩
end
theorem frD_low {d : D} (n : Nat) (h : frD d = true) : low n d = true := low_mono (Nat.zero_le n) d h
theorem lows_all {n : Nat} : ∀ {ds : List D}, lows n ds = ds.all (low n)
  | [] => rfl
  | d :: ds => by simp only [lows, List.all_cons, lows_all]
end
end VM
set_option Elab.async false
set_option maxRecDepth 100000
set_option maxHeartbeats 4000000
set_option linter.all false
set_option autoImplicit false
namespace VM
open PySem L2
/-! ### stores, what defs hand back -/
section
variable {s t : Sto} {d : D} {so : SO} {kp : Bool} {α : Type}
@[simp] theorem set_last {x y : SO} : (s ++ [x]).set s.length y = s ++ [y] := by
  rw [List.set_append]
  simp
theorem take_app {xs ys : List α} : (xs ++ ys).take xs.length = xs := List.take_left' rfl
theorem fin_app (hs : Low s) (hd : low s.length d = true) : fin kp s.length d (s ++ t) = some (.ok d s) := by
  unfold fin
  rw [take_app, if_pos (show s.all (lowS s.length) = true from hs)]
  cases d with
  | own l =>
    have : l < s.length := by simpa only [low, decide_eq_true_eq] using hd
    simp only [this, if_true]
  | _ => simp only [hd, if_true]
theorem fin_frz (hs : Low s) (hl : lowS s.length so = true) : fin false s.length (.own s.length) (s ++ so :: t) = some (.ok (frz so) s) := by
  unfold fin
  rw [take_app, if_pos (show s.all (lowS s.length) = true from hs)]
  simp [hl]
theorem fin_own (hs : Low s) (hl : lowS s.length so = true) : fin true s.length (.own s.length) (s ++ so :: t) = some (.ok (.own s.length) (s ++ [so])) := by
  unfold fin
  rw [take_app, if_pos (show s.all (lowS s.length) = true from hs)]
  simp [hl]
theorem finX_app {e : Exn} (hs : Low s) (hd : low s.length e.p = true) : finX s.length e (s ++ t) = some (.ex e s) := by
  unfold finX
  rw [take_app, if_pos ⟨show s.all (lowS s.length) = true from hs, hd⟩]
theorem finI (hs : Low s) {i : Int} : fin kp s.length (.int i) s = some (.ok (.int i) s) := fin_low hs rfl
theorem finB (hs : Low s) {b : Bool} : fin kp s.length (.bl b) s = some (.ok (.bl b) s) := fin_low hs rfl
theorem finN (hs : Low s) : fin kp s.length .non s = some (.ok .non s) := fin_low hs rfl
theorem finS (hs : Low s) {b : Str} : fin kp s.length (.str b) s = some (.ok (.str b) s) := fin_low hs rfl
end
theorem lowS_mono {m n : Nat} (h : m ≤ n) {so : SO} (e : lowS m so = true) : lowS n so = true := by
  cases so <;> simp only [lowS] at e ⊢ <;> exact lows_mono h _ e
theorem Low.app {s t : Sto} (h : Low s) (ht : t.all (lowS (s.length + t.length)) = true) : Low (s ++ t) := by
  unfold Low at h ⊢
  rw [List.all_append, List.length_append, Bool.and_eq_true]
  refine ⟨List.all_eq_true.mpr fun x hx => lowS_mono (Nat.le_add_right _ _) (List.all_eq_true.mp h x hx), ht⟩
theorem Low.snoc {s : Sto} {so : SO} (h : Low s) (ht : lowS (s.length + 1) so = true) : Low (s ++ [so]) := h.app (by simp [ht])
theorem lt_LIM {n : Nat} (h : n < 100000) : n < LIM := by rw [LIM_eq]; exact h
@[simp] theorem lit_LIM_lt (n : Nat) (h : n < 100000) : (no_index (OfNat.ofNat n) : Nat) < LIM := lt_LIM h
theorem rngD_1 : rngD 0 1 = [.int 0] := rfl
theorem rngD_2 : rngD 0 2 = [.int 0, .int 1] := rfl
theorem rngD_3 : rngD 0 3 = [.int 0, .int 1, .int 2] := rfl
theorem rngD_4 : rngD 0 4 = [.int 0, .int 1, .int 2, .int 3] := rfl
/-- a value that isinstance takes -/
def plv : D → Bool
  | .own _ => false
  | .set _ _ => false
  | .fn _ => false
  | _ => true
/-! ### loops by a wish about names and store -/
section
variable {gt : D → Rho → Option Rho} {ft : M Bool} {fe : M D} {fb : MS}
theorem forL_pred {P : Nat → Rho → Sto → Prop} : ∀ {ds : List D} {k : Nat} {ρ : Rho} {s : Sto}, P k ρ s → (∀ i (hi : i < ds.length) ρ s, P (k + i) ρ s → ∃ ρ1 ρ2 s2, gt ds[i] ρ = some ρ1 ∧ fb ρ1 s = some (.nx ρ2 s2) ∧ P (k + i + 1) ρ2 s2) →
    ∃ ρ' s', forL gt fb none ds ρ s = some (.nx ρ' s') ∧ P (k + ds.length) ρ' s'
  | [], k, ρ, s, h0, _ => ⟨ρ, s, by rw [forL_nil, chk_none, if_pos rfl], h0⟩
  | d :: ds, k, ρ, s, h0, h => by
    obtain ⟨ρ1, ρ2, s2, h1, h2, h3⟩ := h 0 (Nat.succ_pos _) ρ s h0
    obtain ⟨ρ', s', e, p⟩ := forL_pred (ds := ds) (k := k + 1) h3 fun i hi ρ s hp => by
      have := h (i + 1) (Nat.succ_lt_succ hi) ρ s (by rw [show k + (i + 1) = k + 1 + i by omega]; exact hp)
      rw [show k + 1 + i + 1 = k + (i + 1) + 1 by omega]
      exact this
    refine ⟨ρ', s', ?_, by rw [show k + (d :: ds).length = k + 1 + ds.length by rw [List.length_cons]; omega]; exact p⟩
    have h1' : gt d ρ = some ρ1 := h1
    rw [forL_cons, chk_none, if_pos rfl, h1']
    simp only [h2]
    exact e
theorem forL_predT {P : Nat → Rho → Sto → Prop} : ∀ {ds : List D} {k : Nat} {ρ : Rho} {s : Sto}, P k ρ s → (∀ i (hi : i < ds.length) ρ s, P (k + i) ρ s → ∃ ρ1 ρ2 s2, gt ds[i] ρ = some ρ1 ∧ fb ρ1 s = some (.nx ρ2 s2) ∧ P (k + i + 1) ρ2 s2) →
    ∃ ρ' s', (∀ es, forL gt fb none (ds ++ es) ρ s = forL gt fb none es ρ' s') ∧ P (k + ds.length) ρ' s'
  | [], k, ρ, s, h0, _ => ⟨ρ, s, fun _ => rfl, h0⟩
  | d :: ds, k, ρ, s, h0, h => by
    obtain ⟨ρ1, ρ2, s2, h1, h2, h3⟩ := h 0 (Nat.succ_pos _) ρ s h0
    obtain ⟨ρ', s', e, p⟩ := forL_predT (ds := ds) (k := k + 1) h3 fun i hi ρ s hp => by
      have := h (i + 1) (Nat.succ_lt_succ hi) ρ s (by rw [show k + (i + 1) = k + 1 + i by omega]; exact hp)
      rw [show k + 1 + i + 1 = k + (i + 1) + 1 by omega]
      exact this
    refine ⟨ρ', s', fun es => ?_, by rw [show k + (d :: ds).length = k + 1 + ds.length by rw [List.length_cons]; omega]; exact p⟩
    have h1' : gt d ρ = some ρ1 := h1
    rw [List.cons_append, forL_cons, chk_none, if_pos rfl, h1']
    simp only [h2]
    exact e es
theorem rngD_get {lo : Int} {n i : Nat} (hi : i < (rngD lo n).length) : (rngD lo n)[i] = .int (lo + (i : Int)) := by
  have e : (rngD lo n)[i]? = some (.int (lo + (i : Int))) := by
    rw [rngD_length] at hi
    unfold rngD
    rw [List.getElem?_map, List.getElem?_range hi]
    rfl
  rw [List.getElem?_eq_getElem hi] at e
  exact Option.some.inj e
/-- it goes on, and then P -/
def nxP (P : Rho → Sto → Prop) : Option Out → Prop
  | some (.nx ρ s) => P ρ s
  | _ => False
@[simp] theorem nxP_nx {P : Rho → Sto → Prop} {ρ : Rho} {s : Sto} : nxP P (some (.nx ρ s)) = P ρ s := nrf rfl
theorem nxP_ex {P : Rho → Sto → Prop} {o : Option Out} (h : nxP P o) : ∃ ρ s, o = some (.nx ρ s) ∧ P ρ s := by
  unfold nxP at h
  split at h
  · exact ⟨_, _, rfl, h⟩
  · exact h.elim
/-- it gives a value, and then P -/
def okP {α : Type} (P : α → Sto → Prop) : Option (Res α) → Prop
  | some (.ok x s) => P x s
  | _ => False
@[simp] theorem okP_ok {α : Type} {P : α → Sto → Prop} {x : α} {s : Sto} : okP P (some (.ok x s)) = P x s := nrf rfl
theorem okP_ex {α : Type} {P : α → Sto → Prop} {o : Option (Res α)} (h : okP P o) : ∃ x s, o = some (.ok x s) ∧ P x s := by
  unfold okP at h
  split at h
  · exact ⟨_, _, rfl, h⟩
  · exact h.elim
theorem forL_rngP {P : Nat → Rho → Sto → Prop} {lo : Int} {n : Nat} {ρ : Rho} {s : Sto} (h0 : P 0 ρ s) (h : ∀ i, i < n → ∀ ρ s, P i ρ s → ∃ ρ1, gt (.int (lo + (i : Int))) ρ = some ρ1 ∧ nxP (P (i + 1)) (fb ρ1 s)) :
    ∃ ρ' s', forL gt fb none (rngD lo n) ρ s = some (.nx ρ' s') ∧ P n ρ' s' := by
  obtain ⟨ρ', s', e, p⟩ := forL_pred (gt := gt) (fb := fb) (P := P) (ds := rngD lo n) (k := 0) h0 fun i hi ρ s hp => by
    rw [rngD_get hi]
    rw [rngD_length] at hi
    rw [Nat.zero_add] at hp ⊢
    obtain ⟨ρ1, e1, q⟩ := h i hi ρ s hp
    obtain ⟨ρ2, s2, e2, q⟩ := nxP_ex q
    exact ⟨ρ1, ρ2, s2, e1, e2, q⟩
  exact ⟨ρ', s', e, by rwa [rngD_length, Nat.zero_add] at p⟩
theorem forL_P {P : Nat → Rho → Sto → Prop} {ds : List D} {ρ : Rho} {s : Sto} (h0 : P 0 ρ s) (h : ∀ i (hi : i < ds.length) ρ s, P i ρ s → ∃ ρ1, gt ds[i] ρ = some ρ1 ∧ nxP (P (i + 1)) (fb ρ1 s)) :
    ∃ ρ' s', forL gt fb none ds ρ s = some (.nx ρ' s') ∧ P ds.length ρ' s' := by
  obtain ⟨ρ', s', e, p⟩ := forL_pred (gt := gt) (fb := fb) (P := P) (ds := ds) (k := 0) h0 fun i hi ρ s hp => by
    rw [Nat.zero_add] at hp ⊢
    obtain ⟨ρ1, e1, q⟩ := h i hi ρ s hp
    obtain ⟨ρ2, s2, e2, q⟩ := nxP_ex q
    exact ⟨ρ1, ρ2, s2, e1, e2, q⟩
  exact ⟨ρ', s', e, by rwa [Nat.zero_add] at p⟩
/-- it raises, and then Q -/
def exP (Q : Exn → Rho → Sto → Prop) : Option Out → Prop
  | some (.ex e ρ s) => Q e ρ s
  | _ => False
@[simp] theorem exP_ex {Q : Exn → Rho → Sto → Prop} {e : Exn} {ρ : Rho} {s : Sto} : exP Q (some (.ex e ρ s)) = Q e ρ s := nrf rfl
theorem exP_of {Q : Exn → Rho → Sto → Prop} {o : Option Out} (h : exP Q o) : ∃ e ρ s, o = some (.ex e ρ s) ∧ Q e ρ s := by
  unfold exP at h
  split at h
  · exact ⟨_, _, _, rfl, h⟩
  · exact h.elim
/-- it returns, and then Q -/
def rtP (Q : D → Sto → Prop) : Option Out → Prop
  | some (.rt d s) => Q d s
  | _ => False
@[simp] theorem rtP_rt {Q : D → Sto → Prop} {d : D} {s : Sto} : rtP Q (some (.rt d s)) = Q d s := nrf rfl
theorem rtP_of {Q : D → Sto → Prop} {o : Option Out} (h : rtP Q o) : ∃ d s, o = some (.rt d s) ∧ Q d s := by
  unfold rtP at h
  split at h
  · exact ⟨_, _, rfl, h⟩
  · exact h.elim
theorem forL_E {P : Nat → Rho → Sto → Prop} {Q : Exn → Rho → Sto → Prop} {ds es : List D} {d : D} {ρ : Rho} {s : Sto} (h0 : P 0 ρ s) (h : ∀ i (hi : i < ds.length) ρ s, P i ρ s → ∃ ρ1, gt ds[i] ρ = some ρ1 ∧ nxP (P (i + 1)) (fb ρ1 s))
    (hl : ∀ ρ s, P ds.length ρ s → ∃ ρ1, gt d ρ = some ρ1 ∧ exP Q (fb ρ1 s)) : ∃ e ρ' s', forL gt fb none (ds ++ d :: es) ρ s = some (.ex e ρ' s') ∧ Q e ρ' s' := by
  obtain ⟨ρ', s', e, p⟩ := forL_predT (gt := gt) (fb := fb) (P := P) (ds := ds) (k := 0) h0 fun i hi ρ s hp => by
    rw [Nat.zero_add] at hp ⊢
    obtain ⟨ρ1, e1, q⟩ := h i hi ρ s hp
    obtain ⟨ρ2, s2, e2, q⟩ := nxP_ex q
    exact ⟨ρ1, ρ2, s2, e1, e2, q⟩
  rw [Nat.zero_add] at p
  obtain ⟨ρ1, e1, q⟩ := hl ρ' s' p
  obtain ⟨x, ρ2, s2, e2, q⟩ := exP_of q
  refine ⟨x, ρ2, s2, ?_, q⟩
  rw [e, forL_cons, chk_none, if_pos rfl, e1]
  simp only [e2]
theorem forL_R {P : Nat → Rho → Sto → Prop} {Q : D → Sto → Prop} {ds es : List D} {d : D} {ρ : Rho} {s : Sto} (h0 : P 0 ρ s) (h : ∀ i (hi : i < ds.length) ρ s, P i ρ s → ∃ ρ1, gt ds[i] ρ = some ρ1 ∧ nxP (P (i + 1)) (fb ρ1 s))
    (hl : ∀ ρ s, P ds.length ρ s → ∃ ρ1, gt d ρ = some ρ1 ∧ rtP Q (fb ρ1 s)) : ∃ x s', forL gt fb none (ds ++ d :: es) ρ s = some (.rt x s') ∧ Q x s' := by
  obtain ⟨ρ', s', e, p⟩ := forL_predT (gt := gt) (fb := fb) (P := P) (ds := ds) (k := 0) h0 fun i hi ρ s hp => by
    rw [Nat.zero_add] at hp ⊢
    obtain ⟨ρ1, e1, q⟩ := h i hi ρ s hp
    obtain ⟨ρ2, s2, e2, q⟩ := nxP_ex q
    exact ⟨ρ1, ρ2, s2, e1, e2, q⟩
  rw [Nat.zero_add] at p
  obtain ⟨ρ1, e1, q⟩ := hl ρ' s' p
  obtain ⟨x, s2, e2, q⟩ := rtP_of q
  refine ⟨x, s2, ?_, q⟩
  rw [e, forL_cons, chk_none, if_pos rfl, e1]
  simp only [e2]
theorem rngD_split {lo : Int} {m n : Nat} (h : m < n) : rngD lo n = rngD lo m ++ .int (lo + (m : Int)) :: rngD (lo + (m : Int) + 1) (n - m - 1) := by
  unfold rngD
  obtain ⟨k, rfl⟩ : ∃ k, n = m + (1 + k) := ⟨n - m - 1, by omega⟩
  rw [List.range_add, List.map_append, List.map_map, Nat.add_comm 1 k, List.range_succ_eq_map, List.map_cons, List.map_map, show m + (k + 1) - m - 1 = k by omega]
  congr 2
  apply List.map_congr_left
  intro j _
  show D.int (lo + ((m + (j + 1) : Nat) : Int)) = D.int (lo + (m : Int) + 1 + (j : Int))
  congr 1
  omega
theorem forL_rngE {P : Nat → Rho → Sto → Prop} {Q : Exn → Rho → Sto → Prop} {lo : Int} {m n : Nat} {ρ : Rho} {s : Sto} (hm : m < n) (h0 : P 0 ρ s) (h : ∀ i, i < m → ∀ ρ s, P i ρ s → ∃ ρ1, gt (.int (lo + (i : Int))) ρ = some ρ1 ∧ nxP (P (i + 1)) (fb ρ1 s))
    (hl : ∀ ρ s, P m ρ s → ∃ ρ1, gt (.int (lo + (m : Int))) ρ = some ρ1 ∧ exP Q (fb ρ1 s)) : ∃ e ρ' s', forL gt fb none (rngD lo n) ρ s = some (.ex e ρ' s') ∧ Q e ρ' s' := by
  rw [rngD_split hm]
  refine forL_E h0 (fun i hi ρ s hp => ?_) (by rw [rngD_length]; exact hl)
  rw [rngD_get hi]
  rw [rngD_length] at hi
  exact h i hi ρ s hp
theorem lcL_pred {P : Nat → List D → Sto → Prop} {ρ : Rho} : ∀ {ds : List D} {k : Nat} {acc : List D} {s : Sto}, P k acc s → (∀ i (hi : i < ds.length) acc s, P (k + i) acc s → ∃ ρ1, gt ds[i] ρ = some ρ1 ∧ ((∃ s1, ft ρ1 s = some (.ok false s1) ∧ P (k + i + 1) acc s1) ∨
      ∃ s1 y s2, ft ρ1 s = some (.ok true s1) ∧ fe ρ1 s1 = some (.ok y s2) ∧ P (k + i + 1) (acc ++ [y]) s2)) → ∃ ys s', lcL gt ft fe none ρ ds s = some (ys, s') ∧ P (k + ds.length) (acc ++ ys) s'
  | [], k, acc, s, h0, _ => ⟨[], s, by rw [lcL_nil, chk_none, if_pos rfl], by rw [List.append_nil]; exact h0⟩
  | d :: ds, k, acc, s, h0, h => by
    obtain ⟨ρ1, h1, h2⟩ := h 0 (Nat.succ_pos _) acc s h0
    have h1' : gt d ρ = some ρ1 := h1
    have st : ∀ acc s, P (k + 1) acc s → ∃ ys s', lcL gt ft fe none ρ ds s = some (ys, s') ∧ P (k + 1 + ds.length) (acc ++ ys) s' := fun acc s hp => lcL_pred (ds := ds) (k := k + 1) hp fun i hi acc s hp => by
      have := h (i + 1) (Nat.succ_lt_succ hi) acc s (by rw [show k + (i + 1) = k + 1 + i by omega]; exact hp)
      rw [show k + 1 + i + 1 = k + (i + 1) + 1 by omega]
      exact this
    have hl : k + (d :: ds).length = k + 1 + ds.length := by rw [List.length_cons]; omega
    rw [hl]
    rcases h2 with ⟨s1, e1, p1⟩ | ⟨s1, y, s2, e1, e2, p1⟩
    · obtain ⟨ys, s', e, p⟩ := st acc s1 p1
      exact ⟨ys, s', by rw [lcL_cons, chk_none, if_pos rfl, h1']; simp only [e1]; exact e, p⟩
    · obtain ⟨ys, s', e, p⟩ := st (acc ++ [y]) s2 p1
      refine ⟨y :: ys, s', by rw [lcL_cons, chk_none, if_pos rfl, h1']; simp only [e1, e2, e], ?_⟩
      rwa [List.append_assoc] at p
/-- over a range, nothing left out -/
theorem lcL_rngP {P : Nat → List D → Sto → Prop} {ρ : Rho} {lo : Int} {n : Nat} {s : Sto} (h0 : P 0 [] s) (h : ∀ i, i < n → ∀ acc s, P i acc s → ∃ ρ1, gt (.int (lo + (i : Int))) ρ = some ρ1 ∧ ft ρ1 s = some (.ok true s) ∧ okP (fun y s2 => P (i + 1) (acc ++ [y]) s2) (fe ρ1 s)) :
    ∃ ys s', lcL gt ft fe none ρ (rngD lo n) s = some (ys, s') ∧ P n ys s' := by
  obtain ⟨ys, s', e, p⟩ := lcL_pred (gt := gt) (ft := ft) (fe := fe) (P := P) (ρ := ρ) (ds := rngD lo n) (k := 0) (acc := []) h0 fun i hi acc s hp => by
    rw [rngD_get hi]
    rw [rngD_length] at hi
    rw [Nat.zero_add] at hp ⊢
    obtain ⟨ρ1, h1, h2, h3⟩ := h i hi acc s hp
    obtain ⟨y, s2, h3, h4⟩ := okP_ex h3
    exact ⟨ρ1, h1, .inr ⟨s, y, s2, h2, h3, h4⟩⟩
  exact ⟨ys, s', e, by rwa [rngD_length, Nat.zero_add, List.nil_append] at p⟩
end
/-! ### texts of small numbers -/
theorem strI_small {k : Nat} (h : k < 1000000) : strI (k : Int) = true := by
  unfold strI
  rw [decide_eq_true_eq, Int.natAbs_natCast]
  by_cases h0 : k = 0
  · subst h0; decide
  · exact (Nat.log2_lt h0).mpr (Nat.lt_of_lt_of_le h (Nat.le_trans (show 1000000 ≤ 2 ^ 20 by decide) (Nat.pow_le_pow_right (by decide) (by decide))))
theorem istr_len64 : ∀ k : Nat, k < 64 → (istr (k : Int)).length ≤ 2 := by
  unfold istr
  decide +kernel
end VM
set_option Elab.async false
set_option maxRecDepth 100000
set_option maxHeartbeats 4000000
set_option linter.all false
set_option autoImplicit false
/-! == of plain data. -/
namespace VM
open PySem L2
noncomputable section
/-- plain data, at most n deep -/
def datD : Nat → D → Bool
  | _, .non => true
  | _, .bl _ => true
  | _, .int _ => true
  | _, .str x => PyData.strOk x
  | n + 1, .lst ds => ds.all (datD n)
  | n + 1, .lck ds => ds.all (datD n)
  | n + 1, .tup ds => ds.all (datD n)
  | _, _ => false
theorem toPys_of {ds : List D} : ∀ {n : Nat}, (∀ d ∈ ds, ∃ p, toPy d = some p ∧ p.canLay0 = true ∧ p.depth ≤ n) → ∃ ps, toPys ds = some ps ∧ PyData.canLayAll0 ps = true ∧ PyData.depthAll ps ≤ n := by
  induction ds with
  | nil => exact fun _ => ⟨[], rfl, rfl, Nat.zero_le _⟩
  | cons d ds ih =>
    intro n h
    obtain ⟨p, e, c, dp⟩ := h d List.mem_cons_self
    obtain ⟨ps, e2, c2, d2⟩ := ih fun x hx => h x (List.mem_cons_of_mem _ hx)
    refine ⟨p :: ps, by rw [toPys, e, e2], by rw [PyData.canLayAll0, c, c2]; rfl, ?_⟩
    show max _ _ ≤ n
    exact Nat.max_le.mpr ⟨dp, d2⟩
theorem datD_ok : ∀ (n : Nat) (d : D), datD n d = true → ∃ p, toPy d = some p ∧ p.canLay0 = true ∧ p.depth ≤ n
  | n, .non, _ => ⟨.none, by rw [toPy], by simp [PyData.canLay0], by simp [PyData.depth]⟩
  | n, .bl b, _ => ⟨.bool b, by rw [toPy], by simp [PyData.canLay0], by simp [PyData.depth]⟩
  | n, .int b, _ => ⟨.int b, by rw [toPy], by simp [PyData.canLay0], by simp [PyData.depth]⟩
  | n, .str b, h => ⟨.str b, by rw [toPy], by simpa [PyData.canLay0, datD] using h, by simp [PyData.depth]⟩
  | n + 1, .lst ds, h => by
    obtain ⟨ps, e, c, dp⟩ := toPys_of (ds := ds) (n := n) fun d hd => datD_ok n d (by rw [datD, List.all_eq_true] at h; exact h d hd)
    exact ⟨.list ps, by rw [toPy, e], by simpa [PyData.canLay0] using c, by simp only [PyData.depth]; omega⟩
  | n + 1, .lck ds, h => by
    obtain ⟨ps, e, c, dp⟩ := toPys_of (ds := ds) (n := n) fun d hd => datD_ok n d (by rw [datD, List.all_eq_true] at h; exact h d hd)
    exact ⟨.list ps, by rw [toPy, e], by simpa [PyData.canLay0] using c, by simp only [PyData.depth]; omega⟩
  | n + 1, .tup ds, h => by
    obtain ⟨ps, e, c, dp⟩ := toPys_of (ds := ds) (n := n) fun d hd => datD_ok n d (by rw [datD, List.all_eq_true] at h; exact h d hd)
    exact ⟨.tuple ps, by rw [toPy, e], by simpa [PyData.canLay0] using c, by simp only [PyData.depth]; omega⟩
  | 0, .lst ds, h => by simp [datD] at h
  | 0, .lck ds, h => by simp [datD] at h
  | 0, .tup ds, h => by simp [datD] at h
  | n, .own _, h => by cases n <;> simp [datD] at h
  | n, .ins _ _ _, h => by cases n <;> simp [datD] at h
  | n, .dct _ _ _, h => by cases n <;> simp [datD] at h
  | n, .set _ _, h => by cases n <;> simp [datD] at h
  | n, .fn _, h => by cases n <;> simp [datD] at h
/-- are two data equal -/
def eqv (x y : D) : Bool := match toPy x, toPy y with
  | some a, some b => PyData.eqv a b
  | _, _ => false
theorem dr_dat {s : Sto} {n : Nat} {d : D} (h : datD n d = true) : dr s d = d := by
  cases d <;> first | rfl | (cases n <;> simp [datD] at h)
theorem shaped_of {p : PyData} {n : Nat} (hn : n ≤ 64) (c : p.canLay0 = true) (d : p.depth ≤ n) : SeqAt.shaped p = true := by
  unfold SeqAt.shaped
  rw [c, decide_eq_true (Nat.le_trans d hn)]
  rfl
theorem beq_dec {α : Type} [BEq α] [LawfulBEq α] [DecidableEq α] (i j : α) : (i == j) = decide (i = j) := by
  rw [Bool.eq_iff_iff]
  simp
theorem scD_eqv {x y : D} {b : Bool} (h : scD x y = some b) : eqv x y = b := by
  unfold scD at h
  split at h <;> first | cases h | skip
  all_goals (first | (simp [eqv, toPy, PyData.eqv]; done) | (simp only [eqv, toPy, PyData.eqv]; exact beq_dec _ _))
/-- the end of == -/
theorem eqB_dat {s : Sto} {m n : Nat} {x y : D} (hx : datD m x = true) (hy : datD n y = true) (hm : m ≤ 64) (hn : n ≤ 64) : eqB s x y = some (eqv x y) := by
  unfold eqB
  cases e : scD x y with
  | some b => simp only [scD_eqv e]
  | none =>
    obtain ⟨p, e1, c1, d1⟩ := datD_ok m x hx
    obtain ⟨q, e2, c2, d2⟩ := datD_ok n y hy
    simp only [dr_dat hx, dr_dat hy, e1, e2, shaped_of hm c1 d1, shaped_of hn c2 d2, and_self, if_true]
    unfold eqv
    simp only [e1, e2]
theorem eqD_dat {s : Sto} {m n : Nat} {x y : D} (hx : datD m x = true) (hy : datD n y = true) (hm : m ≤ 64) (hn : n ≤ 64) : eqD s x y = some (.bl (eqv x y)) := by
  unfold eqD
  rw [eqB_dat hx hy hm hn]
  rfl
theorem neD_dat {s : Sto} {m n : Nat} {x y : D} (hx : datD m x = true) (hy : datD n y = true) (hm : m ≤ 64) (hn : n ≤ 64) : neD s x y = some (.bl (!eqv x y)) := by
  unfold neD
  rw [eqB_dat hx hy hm hn]
  rfl
theorem eqvAll_refl : ∀ {ps : List PyData}, (∀ p ∈ ps, PyData.eqv p p = true) → PyData.eqvAll ps ps = true
  | [], _ => rfl
  | p :: ps, h => by
    rw [PyData.eqvAll, h p List.mem_cons_self, eqvAll_refl fun q hq => h q (List.mem_cons_of_mem _ hq)]
    rfl
theorem toPys_refl {ds : List D} (h : ∀ d ∈ ds, ∀ p, toPy d = some p → PyData.eqv p p = true) : ∀ ps, toPys ds = some ps → PyData.eqvAll ps ps = true := by
  induction ds with
  | nil => intro ps e; cases e; rfl
  | cons d ds ih =>
    intro ps e
    rw [toPys] at e
    split at e
    · rename_i p ps' e1 e2
      cases e
      rw [PyData.eqvAll, h d List.mem_cons_self p e1, ih (fun x hx => h x (List.mem_cons_of_mem _ hx)) ps' e2]
      rfl
    · cases e
theorem eqvPy_refl : ∀ (n : Nat) (d : D), datD n d = true → ∀ p, toPy d = some p → PyData.eqv p p = true
  | n, .non, _, p, e => by rw [toPy] at e; cases e; rfl
  | n, .bl b, _, p, e => by rw [toPy] at e; cases e; simp [PyData.eqv]
  | n, .int b, _, p, e => by rw [toPy] at e; cases e; simp [PyData.eqv]
  | n, .str b, _, p, e => by rw [toPy] at e; cases e; simp [PyData.eqv]
  | n + 1, .lst ds, h, p, e => by
    rw [toPy] at e
    split at e
    · rename_i ps e1
      cases e
      rw [PyData.eqv]
      exact toPys_refl (fun d hd => eqvPy_refl n d (by rw [datD, List.all_eq_true] at h; exact h d hd)) ps e1
    · cases e
  | n + 1, .lck ds, h, p, e => by
    rw [toPy] at e
    split at e
    · rename_i ps e1
      cases e
      rw [PyData.eqv]
      exact toPys_refl (fun d hd => eqvPy_refl n d (by rw [datD, List.all_eq_true] at h; exact h d hd)) ps e1
    · cases e
  | n + 1, .tup ds, h, p, e => by
    rw [toPy] at e
    split at e
    · rename_i ps e1
      cases e
      rw [PyData.eqv]
      exact toPys_refl (fun d hd => eqvPy_refl n d (by rw [datD, List.all_eq_true] at h; exact h d hd)) ps e1
    · cases e
  | 0, .lst ds, h, _, _ => by simp [datD] at h
  | 0, .lck ds, h, _, _ => by simp [datD] at h
  | 0, .tup ds, h, _, _ => by simp [datD] at h
  | n, .own _, h, _, _ => by cases n <;> simp [datD] at h
  | n, .ins _ _ _, h, _, _ => by cases n <;> simp [datD] at h
  | n, .dct _ _ _, h, _, _ => by cases n <;> simp [datD] at h
  | n, .set _ _, h, _, _ => by cases n <;> simp [datD] at h
  | n, .fn _, h, _, _ => by cases n <;> simp [datD] at h
theorem eqv_refl {n : Nat} {d : D} (h : datD n d = true) : eqv d d = true := by
  obtain ⟨p, e, _, _⟩ := datD_ok n d h
  unfold eqv
  simp only [e]
  exact eqvPy_refl n d h p e
/-! row by row -/
theorem eqv_tup {as bs : List D} : eqv (.tup as) (.tup bs) = (match toPys as, toPys bs with | some p, some q => PyData.eqvAll p q | _, _ => false) := by
  unfold eqv
  rw [toPy, toPy]
  cases toPys as <;> cases toPys bs <;> rfl
theorem eqv_lst {as bs : List D} : eqv (.lst as) (.lst bs) = eqv (.tup as) (.tup bs) := by
  unfold eqv
  rw [toPy, toPy, toPy, toPy]
  cases toPys as <;> cases toPys bs <;> rfl
@[simp] theorem eqv_nil : eqv (.tup []) (.tup []) = true := nrf (by simp [eqv, toPy, toPys, PyData.eqv, PyData.eqvAll])
theorem eqv_cons {m n : Nat} {a b : D} {as bs : List D} (ha : datD m a = true) (hb : datD n b = true) (has : as.all (datD m) = true) (hbs : bs.all (datD n) = true) : eqv (.tup (a :: as)) (.tup (b :: bs)) = (eqv a b && eqv (.tup as) (.tup bs)) := by
  obtain ⟨p, e1, _, _⟩ := datD_ok m a ha
  obtain ⟨q, e2, _, _⟩ := datD_ok n b hb
  obtain ⟨ps, e3, _, _⟩ := toPys_of (n := m) fun d hd => datD_ok m d (List.all_eq_true.mp has d hd)
  obtain ⟨qs, e4, _, _⟩ := toPys_of (n := n) fun d hd => datD_ok n d (List.all_eq_true.mp hbs d hd)
  rw [eqv_tup, eqv_tup, toPys, toPys, e1, e2, e3, e4]
  unfold eqv
  simp only [e1, e2]
  rw [PyData.eqvAll]
theorem toPys_some : ∀ {ds : List D} {ps : List PyData}, toPys ds = some ps → ds.length = ps.length
  | [], _, e => by cases e; rfl
  | d :: ds, ps, e => by
    rw [toPys] at e
    split at e
    · rename_i p ps' e1 e2
      cases e
      rw [List.length_cons, List.length_cons, toPys_some e2]
    · cases e
theorem eqvAll_len : ∀ {p q : List PyData}, PyData.eqvAll p q = true → p.length = q.length
  | [], [], _ => rfl
  | a :: p, b :: q, h => by
    rw [PyData.eqvAll, Bool.and_eq_true] at h
    rw [List.length_cons, List.length_cons, eqvAll_len h.2]
  | [], _ :: _, h => by simp [PyData.eqvAll] at h
  | _ :: _, [], h => by simp [PyData.eqvAll] at h
theorem eqv_len {as bs : List D} (h : eqv (.tup as) (.tup bs) = true) : as.length = bs.length := by
  rw [eqv_tup] at h
  split at h
  · rename_i p q e1 e2
    rw [toPys_some e1, toPys_some e2, eqvAll_len h]
  · cases h
theorem eqv_ne_len {as bs : List D} (h : as.length ≠ bs.length) : eqv (.tup as) (.tup bs) = false := by
  cases e : eqv (.tup as) (.tup bs) with
  | false => rfl
  | true => exact absurd (eqv_len e) h
@[simp] theorem eqv_int {i j : Int} : eqv (.int i) (.int j) = decide (i = j) := nrf (by simp only [eqv, toPy, PyData.eqv]; exact beq_dec _ _)
@[simp] theorem eqv_bl {i j : Bool} : eqv (.bl i) (.bl j) = decide (i = j) := nrf (by simp only [eqv, toPy, PyData.eqv]; exact beq_dec _ _)
@[simp] theorem eqv_str {i j : Str} : eqv (.str i) (.str j) = decide (i = j) := nrf (by simp only [eqv, toPy, PyData.eqv]; exact beq_dec _ _)
theorem eqv_ints : ∀ {as bs : List Int}, eqv (.tup (as.map .int)) (.tup (bs.map .int)) = decide (as = bs)
  | [], [] => by simp
  | a :: as, b :: bs => by
    have hd : ∀ l : List Int, (l.map D.int).all (datD 0) = true := fun l => by simp [datD]
    rw [List.map_cons, List.map_cons, eqv_cons (m := 0) (n := 0) rfl rfl (hd _) (hd _), eqv_ints, eqv_int]
    simp
  | [], b :: bs => by rw [eqv_ne_len (by simp)]; simp
  | a :: as, [] => by rw [eqv_ne_len (by simp)]; simp
end
end VM
set_option Elab.async false
set_option maxRecDepth 100000
set_option maxHeartbeats 4000000
set_option linter.all false
set_option autoImplicit false
namespace VM
open PySem L2
noncomputable section
@[simp] theorem allD_map {s : Sto} {α : Type} (l : List α) (f : α → Bool) : allD s (.lst (l.map fun x => D.bl (f x))) = some (.bl (l.all f)) := by
  unfold allD itL
  simp
@[simp] theorem anyD_map {s : Sto} {α : Type} (l : List α) (f : α → Bool) : anyD s (.lst (l.map fun x => D.bl (f x))) = some (.bl (l.any f)) := by
  unfold anyD itL
  simp
@[simp] theorem sumD_map {s : Sto} {α : Type} (l : List α) (f : α → Int) : sumD s (.lst (l.map fun x => D.int (f x))) = some (.int (l.map f).sum) := by
  unfold sumD itL
  simp
@[simp] theorem lookup_nat {α : Type} {k a : Nat} {x : α} {l : List (Nat × α)} : List.lookup k ((a, x) :: l) = if k = a then some x else l.lookup k := by
  rw [List.lookup_cons]
  by_cases h : k = a
  · subst h; simp
  · have : (k == a) = false := by simpa using h
    simp [this, h]
/-- each less than the next -/
def incr : List Int → Bool
  | a :: b :: r => decide (a < b) && incr (b :: r)
  | _ => true
theorem incr_range : ∀ ns : List Int, ((List.range (ns.length - 1)).all fun k => decide (ns.getD k 0 < ns.getD (k + 1) 0)) = incr ns
  | [] => rfl
  | [a] => rfl
  | a :: b :: r => by
    have ih := incr_range (b :: r)
    rw [show (a :: b :: r).length - 1 = ((b :: r).length - 1) + 1 by simp, List.range_succ_eq_map, List.all_cons, List.all_map, incr, ← ih]
    rfl
theorem incr_of : ∀ {ns : List Int}, ns.Pairwise (· < ·) → incr ns = true
  | [], _ => rfl
  | [a], _ => rfl
  | a :: b :: r, h => by
    obtain ⟨h1, h2⟩ := List.pairwise_cons.mp h
    rw [incr, incr_of h2, decide_eq_true (h1 b List.mem_cons_self)]
    rfl
theorem get_int {ns : List Int} {k : Nat} (h : k < ns.length) : (ns.map D.int)[k]? = some (.int (ns.getD k 0)) := by
  rw [List.getElem?_map, List.getD_eq_getElem?_getD, List.getElem?_eq_getElem h]
  rfl
end
end VM
set_option Elab.async false
set_option maxRecDepth 100000
set_option maxHeartbeats 4000000
set_option linter.all false
set_option autoImplicit false
/-! Dicts, by what is found in them. -/
namespace VM
open PySem L2
noncomputable section
@[simp] theorem keyK_int {i : Int} : keyK (.int i) = some (.inl i) := nrf rfl
@[simp] theorem keyK_str {i : Str} : keyK (.str i) = some (.inr i) := nrf rfl
theorem lookD_put {k j : Key} {z : D} : ∀ {ks vs : List D}, ks.length = vs.length → lookD j (kputD k z ks vs).1 (kputD k z ks vs).2 = if j = k then some z else lookD j ks vs := by
  intro ks vs hl
  unfold kputD
  by_cases hk : hasK k ks = true
  · rw [if_pos hk]
    dsimp only
    induction ks generalizing vs with
    | nil => simp [hasK] at hk
    | cons x ks ih =>
      cases vs with
      | nil => cases hl
      | cons v vs =>
        rw [putVs, lookD, lookD]
        by_cases hx : keyK x = some k
        · by_cases hj : j = k
          · subst hj
            simp [hx]
          · have : ¬ keyK x = some j := fun e => hj (by rw [hx] at e; exact (Option.some.inj e).symm)
            rw [if_neg this, if_neg this, if_neg hj]
            have hl' : ks.length = vs.length := Nat.succ.inj hl
            have gen : ∀ {ks vs : List D}, lookD j ks (putVs k z ks vs) = lookD j ks vs := by
              intro ks
              induction ks with
              | nil => intro vs; cases vs <;> rfl
              | cons x ks ih =>
                intro vs
                cases vs with
                | nil => rfl
                | cons v vs =>
                  rw [putVs, lookD, lookD, ih]
                  by_cases hx : keyK x = some k
                  · have : ¬ keyK x = some j := fun e => hj (by rw [hx] at e; exact (Option.some.inj e).symm)
                    rw [if_neg this, if_neg this]
                  · rw [if_neg hx]
            exact gen
        · rw [if_neg hx]
          have hk' : hasK k ks = true := by simpa [hasK, hx] using hk
          rw [ih (Nat.succ.inj hl) hk']
          by_cases hj : keyK x = some j
          · have : ¬ j = k := fun e => hx (by rw [← e]; exact hj)
            rw [if_pos hj, if_pos hj, if_neg this]
          · rw [if_neg hj, if_neg hj]
  · rw [if_neg hk]
    dsimp only
    induction ks generalizing vs with
    | nil =>
      cases vs with
      | cons _ _ => cases hl
      | nil =>
        show (if keyK (keyD k) = some j then some z else none) = _
        rw [keyK_keyD]
        by_cases h : j = k
        · rw [h, if_pos rfl, if_pos rfl]
        · rw [if_neg (fun e => h (Option.some.inj e).symm), if_neg h]
          rfl
    | cons x ks ih =>
      cases vs with
      | nil => cases hl
      | cons v vs =>
        have hx : ¬ keyK x = some k := fun e => hk (by simp [hasK, e])
        have hk' : ¬ hasK k ks = true := fun e => hk (by simp [hasK] at e ⊢; exact .inr e)
        rw [List.cons_append, List.cons_append, lookD, lookD, ih (Nat.succ.inj hl) hk']
        by_cases hj : keyK x = some j
        · have : ¬ j = k := fun e => hx (by rw [← e]; exact hj)
          rw [if_pos hj, if_pos hj, if_neg this]
        · rw [if_neg hj, if_neg hj]
theorem putVs_len {k : Key} {z : D} : ∀ {ks vs : List D}, ks.length = vs.length → (putVs k z ks vs).length = ks.length
  | [], [], _ => rfl
  | x :: ks, v :: vs, h => by rw [putVs, List.length_cons, List.length_cons, putVs_len (Nat.succ.inj h)]
theorem kputD_len {k : Key} {z : D} {ks vs : List D} (h : ks.length = vs.length) : (kputD k z ks vs).1.length = (kputD k z ks vs).2.length := by
  unfold kputD
  split
  · exact (putVs_len h).symm
  · simp [h]
theorem kputD_le {k : Key} {z : D} {ks vs : List D} : (kputD k z ks vs).1.length ≤ ks.length + 1 := by
  unfold kputD
  split
  · exact Nat.le_succ _
  · simp
theorem putVs_low {k : Key} {z : D} {n : Nat} (hz : low n z = true) : ∀ {ks vs : List D}, lows n vs = true → lows n (putVs k z ks vs) = true
  | [], _, _ => rfl
  | _ :: _, [], _ => rfl
  | x :: ks, v :: vs, h => by
    simp only [lows, Bool.and_eq_true] at h
    rw [putVs]
    simp only [lows, Bool.and_eq_true]
    exact ⟨by split <;> first | exact hz | exact h.1, putVs_low hz h.2⟩
theorem kputD_low {k : Key} {z : D} {n : Nat} {ks vs : List D} (hz : low n z = true) (h : lows n vs = true) : lows n (kputD k z ks vs).2 = true := by
  unfold kputD
  split
  · exact putVs_low hz h
  · rw [lows_all, List.all_append, ← lows_all, h]
    simp [hz]
def dctO : Option SO → Option (List D × List D)
  | some (.dct false ks vs) => some (ks, vs)
  | _ => none
@[simp] theorem dctO_dct {ks vs : List D} : dctO (some (.dct false ks vs)) = some (ks, vs) := nrf rfl
@[simp] theorem dctOf_own {s : Sto} {l : Nat} : dctOf s (.own l) = dctO s[l]? := by
  show (match s[l]? with
    | some (.dct false ks vs) => some (ks, vs)
    | _ => none) = _
  generalize s[l]? = o
  cases o with
  | none => rfl
  | some o => cases o with
    | dct t ks vs => cases t <;> rfl
    | _ => rfl
@[simp] theorem dctOf_dct {s : Sto} {ks vs : List D} : dctOf s (.dct false ks vs) = some (ks, vs) := nrf rfl
theorem inD_ap {s : Sto} {x y : D} : inD s y x = (dctOf s x).bind fun p => (keyK y).map fun k => .bl (lookD k p.1 p.2).isSome := nrf rfl
theorem getD_ap {s : Sto} {x y : D} : getD' s x y = (dctOf s x).bind fun p => (keyK y).bind fun k => lookD k p.1 p.2 := nrf rfl
theorem dputD_own {s : Sto} {l : Nat} {i v : D} : dputD s (.own l) i v = (dctOf s (.own l)).bind fun q => (keyK i).bind fun k => if q.1.length < LIM then some (s.set l (.dct false (kputD k v q.1 q.2).1 (kputD k v q.1 q.2).2)) else none := nrf rfl
@[simp] theorem fNewK_ap {ρ : Rho} {s : Sto} : fNewK ρ s = some (.ok (.own s.length) (s ++ [.dct false [] []])) := nrf rfl
/-- a slice up to the last -/
theorem cut_init {α : Type} (ds : List α) (f : α → D) : cutD (ds.map f) none (some (-1)) = (ds.take (ds.length - 1)).map f := by
  unfold cutD
  simp only [HT.sIx_none]
  have : HT.sIx (ds.map f).length (ds.map f).length (some (-1)) = ds.length - 1 := by
    show (if (-1 : Int) < 0 then ((-1 : Int) + ((ds.map f).length : Int)).toNat else min (-1 : Int).toNat (ds.map f).length) = _
    rw [if_pos (by decide), List.length_map]
    omega
  rw [this, List.drop_zero, Nat.sub_zero, List.map_take]
end
end VM
set_option Elab.async false
set_option maxRecDepth 100000
set_option maxHeartbeats 4000000
set_option linter.all false
set_option autoImplicit false
/-! Comprehensions with two fors; dicts of ints as sets; sorted. -/
namespace VM
open PySem L2
noncomputable section
section
variable {β : Type} {gt : D → Rho → Option Rho} {ft : M Bool} {bd : Rho → β → Sto → Option (β × Sto)}
/-- a row's item is done, and then P -/
def bdP (P : β → Sto → Prop) : Option (β × Sto) → Prop
  | some (b, s) => P b s
  | none => False
@[simp] theorem bdP_some {P : β → Sto → Prop} {b : β} {s : Sto} : bdP P (some (b, s)) = P b s := nrf rfl
theorem bdP_ex {P : β → Sto → Prop} {o : Option (β × Sto)} (h : bdP P o) : ∃ b s, o = some (b, s) ∧ P b s := by
  unfold bdP at h
  split at h
  · exact ⟨_, _, rfl, h⟩
  · exact h.elim
theorem clL_pred {P : Nat → β → Sto → Prop} {ρ : Rho} : ∀ {ds : List D} {k : Nat} {b : β} {s : Sto}, P k b s → (∀ i (hi : i < ds.length) b s, P (k + i) b s → ∃ ρ1, gt ds[i] ρ = some ρ1 ∧ ((ft ρ1 s = some (.ok false s) ∧ P (k + i + 1) b s) ∨ (ft ρ1 s = some (.ok true s) ∧ bdP (P (k + i + 1)) (bd ρ1 b s)))) →
    ∃ b' s', clL gt ft bd none ρ ds b s = some (b', s') ∧ P (k + ds.length) b' s'
  | [], k, b, s, h0, _ => ⟨b, s, by rw [clL_nil, chk_none, if_pos rfl], h0⟩
  | d :: ds, k, b, s, h0, h => by
    obtain ⟨ρ1, h1, h2⟩ := h 0 (Nat.succ_pos _) b s h0
    have h1' : gt d ρ = some ρ1 := h1
    have st : ∀ b s, P (k + 1) b s → ∃ b' s', clL gt ft bd none ρ ds b s = some (b', s') ∧ P (k + 1 + ds.length) b' s' := fun b s hp => clL_pred (ds := ds) (k := k + 1) hp fun i hi b s hp => by
      have := h (i + 1) (Nat.succ_lt_succ hi) b s (by rw [show k + (i + 1) = k + 1 + i by omega]; exact hp)
      rw [show k + 1 + i + 1 = k + (i + 1) + 1 by omega]
      exact this
    have hl : k + (d :: ds).length = k + 1 + ds.length := by rw [List.length_cons]; omega
    rw [hl]
    rcases h2 with ⟨e1, p1⟩ | ⟨e1, p1⟩
    · obtain ⟨b', s', e, p⟩ := st b s p1
      exact ⟨b', s', by rw [clL_cons, chk_none, if_pos rfl, h1']; simp only [e1]; exact e, p⟩
    · obtain ⟨b2, s2, e2, p1⟩ := bdP_ex p1
      obtain ⟨b', s', e, p⟩ := st b2 s2 p1
      exact ⟨b', s', by rw [clL_cons, chk_none, if_pos rfl, h1']; simp only [e1, e2]; exact e, p⟩
theorem clL_P {P : Nat → β → Sto → Prop} {ρ : Rho} {ds : List D} {b : β} {s : Sto} (h0 : P 0 b s) (h : ∀ i (hi : i < ds.length) b s, P i b s → ∃ ρ1, gt ds[i] ρ = some ρ1 ∧ ft ρ1 s = some (.ok true s) ∧ bdP (P (i + 1)) (bd ρ1 b s)) :
    ∃ b' s', clL gt ft bd none ρ ds b s = some (b', s') ∧ P ds.length b' s' := by
  obtain ⟨b', s', e, p⟩ := clL_pred (gt := gt) (ft := ft) (bd := bd) (P := P) (ρ := ρ) (ds := ds) (k := 0) h0 fun i hi b s hp => by
    rw [Nat.zero_add] at hp ⊢
    obtain ⟨ρ1, h1, h2, h3⟩ := h i hi b s hp
    exact ⟨ρ1, h1, .inr ⟨h2, h3⟩⟩
  exact ⟨b', s', e, by rwa [Nat.zero_add] at p⟩
theorem clL_rngP {P : Nat → β → Sto → Prop} {ρ : Rho} {lo : Int} {n : Nat} {b : β} {s : Sto} (h0 : P 0 b s) (h : ∀ i, i < n → ∀ b s, P i b s → ∃ ρ1, gt (.int (lo + (i : Int))) ρ = some ρ1 ∧ ft ρ1 s = some (.ok true s) ∧ bdP (P (i + 1)) (bd ρ1 b s)) :
    ∃ b' s', clL gt ft bd none ρ (rngD lo n) b s = some (b', s') ∧ P n b' s' := by
  obtain ⟨b', s', e, p⟩ := clL_P (gt := gt) (ft := ft) (bd := bd) (P := P) (ρ := ρ) (ds := rngD lo n) h0 fun i hi b s hp => by
    rw [rngD_get hi]
    rw [rngD_length] at hi
    exact h i hi b s hp
  exact ⟨b', s', e, by rwa [rngD_length] at p⟩
end
theorem cl1_ap {β : Type} {fi1 : M Src} {g1 : D → Rho → Option Rho} {ft1 : M Bool} {bd : Rho → β → Sto → Option (β × Sto)} {vs1 : List Nat} {ρ : Rho} {b : β} {s : Sto} : cl1 fi1 g1 ft1 bd vs1 ρ b s = match fi1 ρ s with
  | some (.ok z s1) => clL g1 ft1 bd z.2 (wipeD ρ vs1) z.1 b s1
  | _ => none := nrf rfl
theorem lcB_ap {fe : M D} {ρ : Rho} {b : List D} {s : Sto} : lcB fe ρ b s = match fe ρ s with
  | some (.ok y s1) => if b.length < LIM then some (b ++ [y], s1) else none
  | _ => none := nrf rfl
theorem dcB_ap {fk fv : M D} {ρ : Rho} {b : List D × List D} {s : Sto} : dcB fk fv ρ b s = match fk ρ s with
  | some (.ok y s1) => match fv ρ s1 with
    | some (.ok x s2) => (keyK y).bind fun k => if b.1.length < LIM then some (kputD k x b.1 b.2, s2) else none
    | _ => none
  | _ => none := nrf rfl
theorem fLc2_ap {fi : M Src} {g : D → Rho → Option Rho} {ft : M Bool} {fi1 : M Src} {g1 : D → Rho → Option Rho} {ft1 : M Bool} {fe : M D} {vs vs1 : List Nat} {ρ : Rho} {s : Sto} : fLc2 fi g ft fi1 g1 ft1 fe vs vs1 ρ s = bnd fi (fun z => fun ρ s =>
  match clL g ft (cl1 fi1 g1 ft1 (lcB fe) vs1) z.2 (wipeD ρ vs) z.1 [] s with
  | some (b, s') => some (.ok (.lst b) s')
  | none => none) ρ s := nrf rfl
theorem fDc2_ap {fi : M Src} {g : D → Rho → Option Rho} {ft : M Bool} {fi1 : M Src} {g1 : D → Rho → Option Rho} {ft1 : M Bool} {fk fv : M D} {vs vs1 : List Nat} {ρ : Rho} {s : Sto} : fDc2 fi g ft fi1 g1 ft1 fk fv vs vs1 ρ s = bnd fi (fun z => fun ρ s =>
  match clL g ft (cl1 fi1 g1 ft1 (dcB fk fv) vs1) z.2 (wipeD ρ vs) z.1 ([], []) s with
  | some (b, s') => some (.ok (.dct false b.1 b.2) s')
  | none => none) ρ s := nrf rfl
theorem fDc_ap {fi : M Src} {g : D → Rho → Option Rho} {ft : M Bool} {fk fv : M D} {vs : List Nat} {ρ : Rho} {s : Sto} : fDc fi g ft fk fv vs ρ s = bnd fi (fun z => fun ρ s =>
  match clL g ft (dcB fk fv) z.2 (wipeD ρ vs) z.1 ([], []) s with
  | some (b, s') => some (.ok (.dct false b.1 b.2) s')
  | none => none) ρ s := nrf rfl
/-! ### ints as keys -/
theorem hasK_ints {k : Int} : ∀ {l : List Int}, hasK (.inl k) (l.map D.int) = decide (k ∈ l)
  | [] => by simp [hasK]
  | a :: l => by
    have ih := hasK_ints (k := k) (l := l)
    unfold hasK at ih ⊢
    rw [List.map_cons, List.any_cons, ih, keyK_int]
    by_cases h : a = k
    · subst h; simp
    · have h2 : ¬ (some (Sum.inl a : Key) = some (.inl k)) := fun e => h (by injection e with e; injection e)
      have h3 : ¬ k = a := fun e => h e.symm
      simp [h3, h]
/-- the keys behind a put -/
def addK (k : Int) (l : List Int) : List Int := if k ∈ l then l else l ++ [k]
theorem kput_ints {k : Int} {z : D} {l : List Int} {vs : List D} : (kputD (.inl k) z (l.map D.int) vs).1 = (addK k l).map D.int := by
  unfold kputD addK
  rw [hasK_ints]
  by_cases h : k ∈ l
  · simp [h]
  · simp [h, keyD]
theorem addK_nodup {k : Int} {l : List Int} (h : l.Nodup) : (addK k l).Nodup := by
  unfold addK
  split
  · exact h
  · exact nodup_snoc h (by assumption)
theorem mem_addK {k x : Int} {l : List Int} : x ∈ addK k l ↔ x ∈ l ∨ x = k := by
  unfold addK
  split
  · constructor
    · exact .inl
    · rintro (h | rfl) <;> assumption
  · simp
theorem addK_len {k : Int} {l : List Int} : (addK k l).length ≤ l.length + 1 := by
  unfold addK
  split
  · exact Nat.le_succ _
  · simp
theorem perm_of_mem {a b : List Int} (ha : a.Nodup) (hb : b.Nodup) (h : ∀ x, x ∈ a ↔ x ∈ b) : a.Perm b := by
  rw [List.perm_iff_count]
  intro x
  by_cases hx : x ∈ a
  · rw [ha.count, hb.count, if_pos hx, if_pos ((h x).mp hx)]
  · rw [List.count_eq_zero_of_not_mem hx, List.count_eq_zero_of_not_mem fun y => hx ((h x).mpr y)]
theorem sortI_eq {a b : List Int} (ha : a.Nodup) (hb : b.Nodup) (h : ∀ x, x ∈ a ↔ x ∈ b) : sortI a = sortI b :=
  sorted_eq (sortI_sorted a) (sortI_sorted b) ((sortI_perm a).trans ((perm_of_mem ha hb h).trans (sortI_perm b).symm))
theorem sortI_strict {a : List Int} (ha : a.Nodup) : (sortI a).Pairwise (· < ·) := by
  have h1 := sortI_sorted a
  have h2 : (sortI a).Nodup := (sortI_perm a).nodup_iff.mpr ha
  have := h1.and h2
  exact this.imp fun ⟨a, b⟩ => by omega
theorem mem_sortI {a : List Int} {x : Int} : x ∈ sortI a ↔ x ∈ a := (sortI_perm a).mem_iff
@[simp] theorem setD_ints {s : Sto} (ns : List Int) : setD s (.lst (ns.map D.int)) = if ns.length ≤ 4000 then some (.set false ((dedI ns).map .int)) else none := by
  unfold setD itL
  simp [intsD_map]
theorem srt_set {s : Sto} (ns : List Int) : sortedD s (.set false (ns.map D.int)) = if ns.length < 64 then some (.lst ((sortI ns).map .int)) else none := by
  unfold sortedD
  simp only [intsD_map, Option.bind_some]
theorem srt_dct {s : Sto} (ns : List Int) (vs : List D) : sortedD s (.dct false (ns.map D.int) vs) = if ns.length < 64 then some (.lst ((sortI ns).map .int)) else none := by
  unfold sortedD
  simp only [intsD_map, Option.bind_some]
theorem lowS_lst {n : Nat} {ds : List D} : lowS n (.lst ds) = lows n ds := nrf rfl
theorem lowS_dct {n : Nat} {t : Bool} {ks vs : List D} : lowS n (.dct t ks vs) = lows n vs := nrf rfl
theorem lowS_ins {n c : Nat} {ns : List Nat} {vs : List D} : lowS n (.ins c ns vs) = lows n vs := nrf rfl
end
end VM
set_option Elab.async false
set_option maxRecDepth 100000
set_option maxHeartbeats 4000000
set_option linter.all false
set_option autoImplicit false
namespace LW
open PySem L2 VM
noncomputable section
def nms (n : Nat) : Str := match n with
  | 0 => "CityError"
  | 10 => "InvalidCity"
  | 11 => "InvalidPlan"
  | _ => ""
def g__law_start : MS := fRet (fOwn (fCons (fVar 0) (fCons (fC (.int 0)) (fCons (fC (.int 0)) (fCons (fC (.int 7)) (fNil))))))
def m__law_start : FM := run true 1 g__law_start
def g_is_from_zero : MS := fRet (fAnd (fIs TN.int (fVar 0)) (fAnd (fNot (fIs TN.bool (fVar 0))) (fChain leD ltD (fC (.int 0)) (fVar 0) (fVar 1))))
def m_is_from_zero : FM := run false 2 g_is_from_zero
def g_City_init : MS := fSeq (fAsg (fTup (fCons (fVar 1) (fCons (fVar 2) (fCons (fVar 3) (fCons (fVar 4) (fNil)))))) (gNm 5)) (fSeq (fFor (fRng1 (fC (.int 4))) (gNm 6) (fIfS (fNotT (fTru (fCall 2 m_is_from_zero (fCons (fOp ixD (fVar 5) (fVar 6)) (fCons (fOp addD (fC (.int 200)) (fC (.int 1))) (fNil)))))) (fRaise 10 (fVar 6)) (fNx))) (fSeq (fSetF 20 3 (fVar 0) (fVar 1)) (fSeq (fSetF 20 0 (fVar 0) (fVar 2)) (fSeq (fSetF 20 4 (fVar 0) (fVar 3)) (fSetF 20 1 (fVar 0) (fVar 4))))))
def m_City_init : FM := run false 7 g_City_init
def g__law_pins : MS := fSeq (fAsg (fLc (fRng1 (fFld 3 (fVar 0))) (gNm 2) (ret true) (fTup (fCons (fOp addD (fC (.str ("i" : Str))) (fCB (c1 strD) (fCons (fVar 2) (fNil)))) (fCons (fVar 2) (fCons (fC (.bl true)) (fCons (fC .non) (fNil)))))) [2]) (gNm 1)) (fSeq (fFor (fRng1 (fFld 0 (fVar 0))) (gNm 2) (fAsg (fOp addD (fVar 1) (fLc (fRng1 (fC (.int 4))) (gNm 3) (ret true) (fTup (fCons (fOp addD (fOp addD (fOp addD (fC (.str ("b" : Str))) (fCB (c1 strD) (fCons (fVar 2) (fNil)))) (fC (.str ("." : Str)))) (fCB (c1 strD) (fCons (fVar 3) (fNil)))) (fCons (fOp addD (fFld 3 (fVar 0)) (fVar 2)) (fCons (fOp eqD (fVar 3) (fC (.int 0))) (fCons (fVar 2) (fNil)))))) [3])) (gNm 1))) (fRet (fOp addD (fVar 1) (fLc (fRng1 (fFld 4 (fVar 0))) (gNm 2) (ret true) (fTup (fCons (fOp addD (fC (.str ("o" : Str))) (fCB (c1 strD) (fCons (fVar 2) (fNil)))) (fCons (fOp addD (fOp addD (fFld 3 (fVar 0)) (fFld 0 (fVar 0))) (fVar 2)) (fCons (fC (.bl false)) (fCons (fC .non) (fNil)))))) [2]))))
def m__law_pins : FM := run false 4 g__law_pins
def g_is_joined_row : MS := fSeq (fIfS (fOrT (fNotT (fTru (fIs TN.tuple (fVar 0)))) (fNotT (fTru (fCB (c1 allD) (fCons (fLc (fSrc (fVar 0)) (gNm 1) (ret true) (fCall 2 m_is_from_zero (fCons (fVar 1) (fCons (fOp (i2 powI) (fC (.int 10)) (fC (.int 6))) (fNil)))) [1]) (fNil)))))) (fRet (fC (.bl false))) (fNx)) (fRet (fCB (c1 allD) (fCons (fLc (fRng2 (fC (.int 1)) (fCB (c1 lenD) (fCons (fVar 0) (fNil)))) (gNm 2) (ret true) (fOp ltD (fOp ixD (fVar 0) (fOp subD (fVar 2) (fC (.int 1)))) (fOp ixD (fVar 0) (fVar 2))) [2]) (fNil))))
def m_is_joined_row : FM := run false 3 g_is_joined_row
def g_is_block_cell : MS := fSeq (fIfS (fOrT (fNotT (fTru (fIs TN.tuple (fVar 0)))) (fOrT (fBl (fOp neD (fCB (c1 lenD) (fCons (fVar 0) (fNil))) (fC (.int 3)))) (fNotT (fTru (fCall 2 m_is_from_zero (fCons (fOp ixD (fVar 0) (fC (.int 0))) (fCons (fC (.int 256)) (fNil)))))))) (fRet (fC (.bl false))) (fNx)) (fRet (fAnd (fCall 2 m_is_from_zero (fCons (fOp ixD (fVar 0) (fC (.int 1))) (fCons (fC (.int 2)) (fNil)))) (fCall 2 m_is_from_zero (fCons (fOp ixD (fVar 0) (fC (.int 2))) (fCons (fOp addD (fC (.int 1)) (fOp ixD (fVar 0) (fC (.int 1)))) (fNil))))))
def m_is_block_cell : FM := run false 1 g_is_block_cell
def g_Plan_init : MS := fSeq (fFor (fSrc (fTup (fCons (fTup (fCons (fC (.str ("cell" : Str))) (fCons (fVar 1) (fNil)))) (fCons (fTup (fCons (fC (.str ("join" : Str))) (fCons (fVar 2) (fNil)))) (fNil))))) (gTp 2 (gCn (gNm 3) (gCn (gNm 4) (gNl)))) (fIfS (fNotT (fTru (fIs TN.tuple (fVar 4)))) (fRaise 11 (fTup (fCons (fVar 3) (fCons (fC .non) (fNil))))) (fNx))) (fSeq (fFor (fRng1 (fCB (c1 lenD) (fCons (fVar 1) (fNil)))) (gNm 5) (fIfS (fAndT (fBl (fOp isNN (fOp ixD (fVar 1) (fVar 5)) (fC .non))) (fNotT (fTru (fCall 1 m_is_block_cell (fCons (fOp ixD (fVar 1) (fVar 5)) (fNil)))))) (fRaise 11 (fTup (fCons (fC (.str ("cell" : Str))) (fCons (fVar 5) (fNil))))) (fNx))) (fSeq (fFor (fRng1 (fCB (c1 lenD) (fCons (fVar 2) (fNil)))) (gNm 5) (fIfS (fNotT (fTru (fCall 1 m_is_joined_row (fCons (fOp ixD (fVar 2) (fVar 5)) (fNil))))) (fRaise 11 (fTup (fCons (fC (.str ("join" : Str))) (fCons (fVar 5) (fNil))))) (fNx))) (fSeq (fSetF 21 5 (fVar 0) (fVar 1)) (fSetF 21 6 (fVar 0) (fVar 2)))))
def m_Plan_init : FM := run false 6 g_Plan_init
def g__law_pick : MS := fSeq (fIfS (fAndT (fBl (fOp eqD (fOp ixD (fVar 0) (fC (.int 2))) (fC (.int 0)))) (fBl (fOp ltD (fOp ixD (fVar 0) (fC (.int 1))) (fCB (c1 lenD) (fCons (fOp ixD (fVar 0) (fC (.int 0))) (fNil)))))) (fSeq (fAsg (fCB (c1 absD) (fCons (fOp ixD (fOp ixD (fVar 0) (fC (.int 0))) (fOp ixD (fVar 0) (fC (.int 1)))) (fNil))) (gNm 2)) (fSeq (fSub (fOp addD (fOp ixD (fVar 0) (fC (.int 1))) (fC (.int 1))) (fVar 0) (fC (.int 1))) (fIfS (fBl (fOp geD (fVar 2) (fOp (i2 powI) (fC (.int 10)) (fC (.int 18))))) (fSub (fVar 2) (fVar 0) (fC (.int 2))) (fSub (fOp addD (fOp (i2 modI) (fCB (c1 intD) (fCons (fOp addD (fOp mulU (fOp ixD (fVar 0) (fC (.int 3))) (fC (.int 48271))) (fVar 2)) (fNil))) (fC (.int 2147483646))) (fC (.int 1))) (fVar 0) (fC (.int 3)))))) (fNx)) (fSeq (fIfS (fBl (fOp gtD (fOp ixD (fVar 0) (fC (.int 2))) (fC (.int 0)))) (fSeq (fAsg (fOp (i2 modI) (fCB (c1 intD) (fCons (fOp ixD (fVar 0) (fC (.int 2))) (fNil))) (fVar 1)) (gNm 3)) (fSeq (fSub (fOp (i2 fdivI) (fOp ixD (fVar 0) (fC (.int 2))) (fVar 1)) (fVar 0) (fC (.int 2))) (fRet (fVar 3)))) (fNx)) (fSeq (fSub (fOp (i2 modI) (fCB (c1 intD) (fCons (fOp mulU (fOp ixD (fVar 0) (fC (.int 3))) (fC (.int 48271))) (fNil))) (fC (.int 2147483647))) (fVar 0) (fC (.int 3))) (fRet (fOp (i2 modI) (fCB (c1 intD) (fCons (fOp addD (fOp (i2 fdivI) (fOp ixD (fVar 0) (fC (.int 3))) (fC (.int 5))) (fOp (i2 modI) (fCB (c1 intD) (fCons (fOp mulU (fOp ixD (fVar 0) (fC (.int 3))) (fOp ixD (fVar 0) (fC (.int 3)))) (fNil))) (fC (.int 2147483629)))) (fNil))) (fVar 1)))))
def m__law_pick : FM := run false 4 g__law_pick
def g_City_pin_count : MS := fRet (fOp addD (fOp addD (fFld 3 (fVar 0)) (fOp mulU (fC (.int 4)) (fFld 0 (fVar 0)))) (fFld 4 (fVar 0)))
def m_City_pin_count : FM := run false 1 g_City_pin_count
def g__law_drawn : MS := fSeq (fAsg (fOwn (fNil)) (gNm 2)) (fSeq (fFor (fRng1 (fFld 0 (fVar 1))) (gNm 3) (fSeq (fAsg (fCall 2 m__law_pick (fCons (fVar 0) (fCons (fC (.int 2)) (fNil)))) (gNm 4)) (fDrop (fApp (fOL (fVar 2)) (fOp ixD (fLst (fCons (fC .non) (fCons (fTup (fCons (fCall 2 m__law_pick (fCons (fVar 0) (fCons (fC (.int 256)) (fNil)))) (fCons (fVar 4) (fCons (fOp mulU (fVar 4) (fCall 2 m__law_pick (fCons (fVar 0) (fCons (fC (.int 2)) (fNil))))) (fNil))))) (fNil)))) (fCall 2 m__law_pick (fCons (fVar 0) (fCons (fC (.int 2)) (fNil))))))))) (fSeq (fAsg (fOwn (fNil)) (gNm 5)) (fSeq (fFor (fRng1 (fFld 1 (fVar 1))) (gNm 3) (fDrop (fApp (fOL (fVar 5)) (fCB (c1 tupleD) (fCons (fCB (c1 sortedD) (fCons (fCB (c1 setD) (fCons (fLc (fRng1 (fCall 2 m__law_pick (fCons (fVar 0) (fCons (fC (.int 4)) (fNil))))) (gNm 6) (ret true) (fCall 2 m__law_pick (fCons (fVar 0) (fCons (fCB (c2 max2D) (fCons (fC (.int 1)) (fCons (fMeth0 20 m_City_pin_count (fVar 1)) (fNil)))) (fNil)))) [6]) (fNil))) (fNil))) (fNil)))))) (fSeq (fIfS (fBl (fOp eqD (fMeth0 20 m_City_pin_count (fVar 1)) (fC (.int 0)))) (fAsg (fOp mulU (fLst (fCons (fTup (fNil)) (fNil))) (fFld 1 (fVar 1))) (gNm 5)) (fNx)) (fRet (fCall 2 (makeD false 21 m_Plan_init) (fCons (fCB (c1 tupleD) (fCons (fVar 2) (fNil))) (fCons (fCB (c1 tupleD) (fCons (fVar 5) (fNil))) (fNil)))))))))
def m__law_drawn : FM := run false 7 g__law_drawn
def g_Plan_eq : MS := fRet (fAnd (fIsC [(20, false), (21, true)] (fVar 1)) (fAnd (fOp eqD (fFld 5 (fVar 0)) (fFld 5 (fVar 1))) (fOp eqD (fFld 6 (fVar 0)) (fFld 6 (fVar 1)))))
def m_Plan_eq : FM := run false 2 g_Plan_eq
def g_changed_plan : MS := fSeq (fAsg (fLc (fRng1 (fCB (c1 lenD) (fCons (fFld 5 (fVar 0)) (fNil)))) (gNm 5) (ret true) (fIf (fBl (fOp inD (fVar 5) (fVar 1))) (fOp getD' (fVar 1) (fVar 5)) (fOp ixD (fFld 5 (fVar 0)) (fVar 5))) [5]) (gNm 3)) (fSeq (fAsg (fLc (fRng1 (fCB (c1 lenD) (fCons (fFld 6 (fVar 0)) (fNil)))) (gNm 5) (ret true) (fIf (fBl (fOp inD (fVar 5) (fVar 2))) (fOp getD' (fVar 2) (fVar 5)) (fOp ixD (fFld 6 (fVar 0)) (fVar 5))) [5]) (gNm 4)) (fRet (fCall 2 (makeD false 21 m_Plan_init) (fCons (fCB (c1 tupleD) (fCons (fVar 3) (fNil))) (fCons (fCB (c1 tupleD) (fCons (fVar 4) (fNil))) (fNil))))))
def m_changed_plan : FM := run false 6 g_changed_plan
def g_plan_misfit : MS := fSeq (fIfS (fBl (fOp neD (fCB (c1 lenD) (fCons (fFld 5 (fVar 1)) (fNil))) (fFld 0 (fVar 0)))) (fRet (fTup (fCons (fC (.str ("cells" : Str))) (fCons (fCB (c1 lenD) (fCons (fFld 5 (fVar 1)) (fNil))) (fNil))))) (fNx)) (fSeq (fIfS (fBl (fOp neD (fCB (c1 lenD) (fCons (fFld 6 (fVar 1)) (fNil))) (fFld 1 (fVar 0)))) (fRet (fTup (fCons (fC (.str ("joins" : Str))) (fCons (fCB (c1 lenD) (fCons (fFld 6 (fVar 1)) (fNil))) (fNil))))) (fNx)) (fSeq (fFor (fSrc (fFld 6 (fVar 1))) (gNm 2) (fFor (fSrc (fVar 2)) (gNm 3) (fIfS (fBl (fOp geD (fVar 3) (fMeth0 20 m_City_pin_count (fVar 0)))) (fRet (fTup (fCons (fC (.str ("pin" : Str))) (fCons (fVar 3) (fNil))))) (fNx)))) (fRet (fC .non))))
def m_plan_misfit : FM := run false 4 g_plan_misfit
def g_check_plan : MS := fSeq (fAsg (fCall 2 m_plan_misfit (fCons (fVar 0) (fCons (fVar 1) (fNil)))) (gNm 2)) (fIfS (fBl (fOp isNN (fVar 2) (fC .non))) (fRaise 11 (fVar 2)) (fNx))
def m_check_plan : FM := run false 3 g_check_plan
def g__law_refused : MS := fSeq (fTry (fIfS (fBl (fOp eqD (fVar 0) (fC (.int 0)))) (fDrop (fCall 4 (makeD false 20 m_City_init) (fCons (fOp ixD (fVar 1) (fC (.int 0))) (fCons (fOp ixD (fVar 1) (fC (.int 1))) (fCons (fOp ixD (fVar 1) (fC (.int 2))) (fCons (fOp ixD (fVar 1) (fC (.int 3))) (fNil))))))) (fIfS (fBl (fOp eqD (fVar 0) (fC (.int 1)))) (fDrop (fCall 2 (makeD false 21 m_Plan_init) (fCons (fOp ixD (fVar 1) (fC (.int 0))) (fCons (fOp ixD (fVar 1) (fC (.int 1))) (fNil))))) (fDrop (fCall 2 m_check_plan (fCons (fOp ixD (fVar 1) (fC (.int 0))) (fCons (fOp ixD (fVar 1) (fC (.int 1))) (fNil))))))) (hAs 2 [(0, false), (10, true), (11, false)] (fun ex => fRet (fTup (fCons (fC ex.p) (fNil)))) (hAs 2 [(0, false), (10, false), (11, true)] (fun ex => fRet (fTup (fCons (fC ex.p) (fNil)))) (hEnd)))) (fRet (fC .non))
def m__law_refused : FM := run false 3 g__law_refused
def g__law_changes : MS := fSeq (fAsg (fCBo (c1 listD) (fCons (fFld 5 (fVar 2)) (fNil))) (gNm 3)) (fSeq (fAsg (fCBo (c1 listD) (fCons (fFld 6 (fVar 2)) (fNil))) (gNm 4)) (fSeq (fAsg (fNewK) (gNm 5)) (fSeq (fAsg (fNewK) (gNm 6)) (fSeq (fFor (fRng1 (fFld 0 (fVar 1))) (gNm 7) (fIfS (fBl (fOp eqD (fCall 2 m__law_pick (fCons (fVar 0) (fCons (fC (.int 2)) (fNil)))) (fC (.int 0)))) (fSeq (fSubD (fOp ixD (fLst (fCons (fC .non) (fCons (fTup (fCons (fC (.int 7)) (fCons (fC (.int 1)) (fCons (fC (.int 1)) (fNil))))) (fNil)))) (fCall 2 m__law_pick (fCons (fVar 0) (fCons (fC (.int 2)) (fNil))))) (fVar 5) (fVar 7)) (fSub (fOp getD' (fVar 5) (fVar 7)) (fVar 3) (fVar 7))) (fNx))) (fSeq (fFor (fRng1 (fFld 1 (fVar 1))) (gNm 7) (fIfS (fAndT (fBl (fOp eqD (fCall 2 m__law_pick (fCons (fVar 0) (fCons (fC (.int 2)) (fNil)))) (fC (.int 0)))) (fBl (fOp gtD (fMeth0 20 m_City_pin_count (fVar 1)) (fC (.int 0))))) (fSeq (fSubD (fTup (fCons (fCall 2 m__law_pick (fCons (fVar 0) (fCons (fMeth0 20 m_City_pin_count (fVar 1)) (fNil)))) (fNil))) (fVar 6) (fVar 7)) (fSub (fOp getD' (fVar 6) (fVar 7)) (fVar 4) (fVar 7))) (fNx))) (fSeq (fAsg (fCall 3 m_changed_plan (fCons (fVar 2) (fCons (fVar 5) (fCons (fVar 6) (fNil))))) (gNm 8)) (fSeq (fIfS (fOrT (fBl (fOpM (eqI true 21 m_Plan_eq) (fVar 8) (fCall 2 (makeD false 21 m_Plan_init) (fCons (fCB (c1 tupleD) (fCons (fVar 3) (fNil))) (fCons (fCB (c1 tupleD) (fCons (fVar 4) (fNil))) (fNil)))))) (fBl (fOp neD (fOpM (eqI false 21 m_Plan_eq) (fVar 8) (fVar 2)) (fAnd (fOp eqD (fCB (c1 tupleD) (fCons (fVar 3) (fNil))) (fFld 5 (fVar 2))) (fOp eqD (fCB (c1 tupleD) (fCons (fVar 4) (fNil))) (fFld 6 (fVar 2))))))) (fRet (fC (.bl false))) (fNx)) (fSeq (fAsg (fOp addD (fMeth0 20 m_City_pin_count (fVar 1)) (fCall 2 m__law_pick (fCons (fVar 0) (fCons (fC (.int 3)) (fNil))))) (gNm 9)) (fSeq (fAsg (fCall 2 (makeD false 21 m_Plan_init) (fCons (fFld 5 (fVar 2)) (fCons (fOp addD (fSl (fFld 6 (fVar 2)) (ret none) (fPart (fNeg (fC (.int 1))))) (fOp mulU (fTup (fCons (fTup (fCons (fVar 9) (fNil))) (fNil))) (fCB (c2 min2D) (fCons (fC (.int 1)) (fCons (fFld 1 (fVar 1)) (fNil)))))) (fNil)))) (gNm 10)) (fSeq (fAsg (fOwn (fCons (fTup (fCons (fCall 2 (makeD false 21 m_Plan_init) (fCons (fOp addD (fFld 5 (fVar 2)) (fTup (fCons (fC .non) (fNil)))) (fCons (fFld 6 (fVar 2)) (fNil)))) (fCons (fTup (fCons (fC (.str ("cells" : Str))) (fCons (fOp addD (fFld 0 (fVar 1)) (fC (.int 1))) (fNil)))) (fNil)))) (fCons (fTup (fCons (fCall 2 (makeD false 21 m_Plan_init) (fCons (fFld 5 (fVar 2)) (fCons (fOp addD (fFld 6 (fVar 2)) (fTup (fCons (fTup (fNil)) (fNil)))) (fNil)))) (fCons (fTup (fCons (fC (.str ("joins" : Str))) (fCons (fOp addD (fFld 1 (fVar 1)) (fC (.int 1))) (fNil)))) (fNil)))) (fNil)))) (gNm 11)) (fSeq (fIfS (fBl (fOp gtD (fFld 1 (fVar 1)) (fC (.int 0)))) (fDrop (fApp (fOL (fVar 11)) (fTup (fCons (fVar 10) (fCons (fTup (fCons (fC (.str ("pin" : Str))) (fCons (fVar 9) (fNil)))) (fNil)))))) (fNx)) (fSeq (fFor (fSrc (fVar 11)) (gTp 2 (gCn (gNm 12) (gCn (gNm 13) (gNl)))) (fIfS (fOrT (fBl (fOp neD (fCall 2 m_plan_misfit (fCons (fVar 1) (fCons (fVar 12) (fNil)))) (fVar 13))) (fBl (fOp neD (fCall 2 m__law_refused (fCons (fC (.int 2)) (fCons (fLst (fCons (fVar 1) (fCons (fVar 12) (fNil)))) (fNil)))) (fTup (fCons (fVar 13) (fNil)))))) (fRet (fC (.bl false))) (fNx))) (fRet (fOp eqD (fCall 2 m_plan_misfit (fCons (fVar 1) (fCons (fCall 2 (makeD false 21 m_Plan_init) (fCons (fOp addD (fFld 5 (fVar 2)) (fTup (fCons (fC .non) (fNil)))) (fCons (fTup (fNil)) (fNil)))) (fNil)))) (fTup (fCons (fC (.str ("cells" : Str))) (fCons (fOp addD (fFld 0 (fVar 1)) (fC (.int 1))) (fNil))))))))))))))))))
def m__law_changes : FM := run false 14 g__law_changes
def g_City_numbers : MS := fRet (fTup (fCons (fFld 3 (fVar 0)) (fCons (fFld 0 (fVar 0)) (fCons (fFld 4 (fVar 0)) (fCons (fFld 1 (fVar 0)) (fNil))))))
def m_City_numbers : FM := run false 1 g_City_numbers
def g_City_eq : MS := fRet (fAnd (fIsC [(20, true), (21, false)] (fVar 1)) (fOp eqD (fMeth0 20 m_City_numbers (fVar 0)) (fMeth0 20 m_City_numbers (fVar 1))))
def m_City_eq : FM := run false 2 g_City_eq
def g__law_wrong : MS := fSeq (fAsg (fCBo (c1 listD) (fCons (fMeth0 20 m_City_numbers (fVar 1)) (fNil))) (gNm 3)) (fSeq (fAsg (fCall 2 m__law_pick (fCons (fVar 0) (fCons (fC (.int 4)) (fNil)))) (gNm 4)) (fSeq (fSub (fOp ixD (fLst (fCons (fC (.int 201)) (fCons (fNeg (fC (.int 1))) (fCons (fC (.bl true)) (fCons (fC .non) (fCons (fC (.str ("1" : Str))) (fCons (fTup (fCons (fC (.int 1)) (fNil))) (fNil)))))))) (fCall 2 m__law_pick (fCons (fVar 0) (fCons (fC (.int 6)) (fNil))))) (fVar 3) (fVar 4)) (fSeq (fAsg (fOp addD (fSl (fVar 3) (ret none) (fPart (fOp addD (fVar 4) (fC (.int 1))))) (fOp mulU (fLst (fCons (fOp ixD (fVar 3) (fVar 4)) (fNil))) (fOp subD (fC (.int 3)) (fVar 4)))) (gNm 5)) (fSeq (fIfS (fOrT (fBl (fOp neD (fCall 2 m__law_refused (fCons (fC (.int 0)) (fCons (fVar 3) (fNil)))) (fTup (fCons (fVar 4) (fNil))))) (fOrT (fBl (fOp neD (fCall 2 m__law_refused (fCons (fC (.int 0)) (fCons (fVar 5) (fNil)))) (fTup (fCons (fVar 4) (fNil))))) (fBl (fOp isNN (fCall 2 m__law_refused (fCons (fC (.int 0)) (fCons (fLst (fCons (fC (.int 200)) (fCons (fC (.int 200)) (fCons (fC (.int 200)) (fCons (fC (.int 200)) (fNil)))))) (fNil)))) (fC .non))))) (fRet (fC (.bl false))) (fNx)) (fSeq (fAsg (fLst (fCons (fTup (fNil)) (fCons (fTup (fCons (fC (.int 1)) (fCons (fC (.int 0)) (fNil)))) (fCons (fTup (fCons (fC (.int 256)) (fCons (fC (.int 0)) (fCons (fC (.int 0)) (fNil))))) (fCons (fTup (fCons (fC (.int 1)) (fCons (fC (.int 0)) (fCons (fC (.int 1)) (fNil))))) (fCons (fTup (fCons (fC (.int 1)) (fCons (fC (.int 2)) (fCons (fC (.int 0)) (fNil))))) (fCons (fTup (fCons (fC (.int 1)) (fCons (fC (.int 1)) (fCons (fC (.int 2)) (fNil))))) (fCons (fTup (fCons (fC (.bl true)) (fCons (fC (.int 0)) (fCons (fC (.int 0)) (fNil))))) (fCons (fLst (fCons (fC (.int 1)) (fCons (fC (.int 0)) (fCons (fC (.int 0)) (fNil))))) (fCons (fTup (fCons (fC (.int 1)) (fCons (fC (.bl true)) (fCons (fC (.int 0)) (fNil))))) (fCons (fC (.int 7)) (fCons (fTup (fCons (fNeg (fC (.int 1))) (fCons (fC (.int 0)) (fCons (fC (.int 0)) (fNil))))) (fCons (fTup (fCons (fC (.int 1)) (fCons (fC (.int 0)) (fCons (fC (.bl false)) (fNil))))) (fNil)))))))))))))) (gNm 6)) (fSeq (fAsg (fCB (c1 lenD) (fCons (fFld 5 (fVar 2)) (fNil))) (gNm 7)) (fSeq (fIfS (fBl (fOp neD (fCall 2 m__law_refused (fCons (fC (.int 1)) (fCons (fLst (fCons (fOp addD (fFld 5 (fVar 2)) (fTup (fCons (fOp ixD (fVar 6) (fCall 2 m__law_pick (fCons (fVar 0) (fCons (fC (.int 12)) (fNil))))) (fNil)))) (fCons (fFld 6 (fVar 2)) (fNil)))) (fNil)))) (fTup (fCons (fTup (fCons (fC (.str ("cell" : Str))) (fCons (fVar 7) (fNil)))) (fNil))))) (fRet (fC (.bl false))) (fNx)) (fSeq (fAsg (fLst (fCons (fC .non) (fCons (fLst (fCons (fC (.int 0)) (fNil))) (fCons (fTup (fCons (fC (.int 1)) (fCons (fC (.int 0)) (fNil)))) (fCons (fTup (fCons (fC (.int 0)) (fCons (fC (.int 0)) (fNil)))) (fCons (fTup (fCons (fNeg (fC (.int 1))) (fNil))) (fCons (fTup (fCons (fC (.bl true)) (fNil))) (fCons (fTup (fCons (fC (.int 0)) (fCons (fC .non) (fNil)))) (fCons (fC (.int 7)) (fCons (fTup (fCons (fC (.str ("0" : Str))) (fNil))) (fCons (fTup (fCons (fOp (i2 powI) (fC (.int 10)) (fC (.int 6))) (fNil))) (fNil)))))))))))) (gNm 8)) (fSeq (fAsg (fCB (c1 lenD) (fCons (fFld 6 (fVar 2)) (fNil))) (gNm 9)) (fSeq (fIfS (fBl (fOp neD (fCall 2 m__law_refused (fCons (fC (.int 1)) (fCons (fLst (fCons (fFld 5 (fVar 2)) (fCons (fOp addD (fFld 6 (fVar 2)) (fTup (fCons (fOp ixD (fVar 8) (fCall 2 m__law_pick (fCons (fVar 0) (fCons (fC (.int 10)) (fNil))))) (fNil)))) (fNil)))) (fNil)))) (fTup (fCons (fTup (fCons (fC (.str ("join" : Str))) (fCons (fVar 9) (fNil)))) (fNil))))) (fRet (fC (.bl false))) (fNx)) (fSeq (fIfS (fOrT (fBl (fOp neD (fCall 2 m__law_refused (fCons (fC (.int 1)) (fCons (fLst (fCons (fCB (c1 listD) (fCons (fFld 5 (fVar 2)) (fNil))) (fCons (fFld 6 (fVar 2)) (fNil)))) (fNil)))) (fTup (fCons (fTup (fCons (fC (.str ("cell" : Str))) (fCons (fC .non) (fNil)))) (fNil))))) (fBl (fOp neD (fCall 2 m__law_refused (fCons (fC (.int 1)) (fCons (fLst (fCons (fFld 5 (fVar 2)) (fCons (fCB (c1 listD) (fCons (fFld 6 (fVar 2)) (fNil))) (fNil)))) (fNil)))) (fTup (fCons (fTup (fCons (fC (.str ("join" : Str))) (fCons (fC .non) (fNil)))) (fNil)))))) (fRet (fC (.bl false))) (fNx)) (fSeq (fAsg (fLc (fSrc (fLst (fCons (fC (.int 0)) (fCons (fC (.int 2)) (fCons (fC (.int 3)) (fCons (fNeg (fC (.int 1))) (fCons (fC (.bl true)) (fCons (fC .non) (fCons (fC (.str ("1" : Str))) (fCons (fTup (fCons (fC (.int 1)) (fNil))) (fNil))))))))))) (gNm 11) (ret true) (fCall 2 m_is_from_zero (fCons (fVar 11) (fCons (fC (.int 3)) (fNil)))) [11]) (gNm 10)) (fRet (fAnd (fOp eqD (fVar 10) (fOp addD (fLst (fCons (fC (.bl true)) (fCons (fC (.bl true)) (fNil)))) (fOp mulU (fLst (fCons (fC (.bl false)) (fNil))) (fC (.int 6))))) (fAnd (fOpM (eqI false 20 m_City_eq) (fVar 1) (fCall 4 (makeD false 20 m_City_init) (fCons (fFld 3 (fVar 1)) (fCons (fFld 0 (fVar 1)) (fCons (fFld 4 (fVar 1)) (fCons (fFld 1 (fVar 1)) (fNil))))))) (fOpM (eqI true 20 m_City_eq) (fVar 1) (fCall 4 (makeD false 20 m_City_init) (fCons (fOp addD (fFld 3 (fVar 1)) (fC (.int 1))) (fCons (fFld 0 (fVar 1)) (fCons (fFld 4 (fVar 1)) (fCons (fFld 1 (fVar 1)) (fNil))))))))))))))))))))))
def m__law_wrong : FM := run false 12 g__law_wrong
def g_block_of : MS := fSeq (fAsg (fOp (i2 fdivI) (fOp subD (fVar 1) (fFld 3 (fVar 0))) (fC (.int 4))) (gNm 2)) (fRet (fIf (fBl (fChain leD ltD (fC (.int 0)) (fVar 2) (fFld 0 (fVar 0)))) (fVar 2) (fC .non)))
def m_block_of : FM := run false 3 g_block_of
def g_City_out_pin : MS := fRet (fOp addD (fOp addD (fFld 3 (fVar 0)) (fOp mulU (fC (.int 4)) (fFld 0 (fVar 0)))) (fVar 1))
def m_City_out_pin : FM := run false 2 g_City_out_pin
def g_pin_name : MS := fSeq (fAsg (fCall 2 m_block_of (fCons (fVar 0) (fCons (fVar 1) (fNil)))) (gNm 2)) (fSeq (fIfS (fBl (fOp isNN (fVar 2) (fC .non))) (fRet (fOp addD (fOp addD (fOp addD (fC (.str ("b" : Str))) (fCB (c1 strD) (fCons (fVar 2) (fNil)))) (fC (.str ("." : Str)))) (fCB (c1 strD) (fCons (fOp andD (fCB (c1 intD) (fCons (fOp subD (fVar 1) (fFld 3 (fVar 0))) (fNil))) (fC (.int 3))) (fNil))))) (fNx)) (fRet (fIf (fBl (fOp ltD (fVar 1) (fFld 3 (fVar 0)))) (fOp addD (fC (.str ("i" : Str))) (fCB (c1 strD) (fCons (fVar 1) (fNil)))) (fOp addD (fC (.str ("o" : Str))) (fCB (c1 strD) (fCons (fOp subD (fVar 1) (fMeth 20 1 m_City_out_pin (fVar 0) (fCons (fC (.int 0)) (fNil)))) (fNil)))))))
def m_pin_name : FM := run false 3 g_pin_name
def g_position_of : MS := fSeq (fAsg (fCall 2 m_block_of (fCons (fVar 0) (fCons (fVar 1) (fNil)))) (gNm 2)) (fSeq (fIfS (fBl (fOp isNN (fVar 2) (fC .non))) (fRet (fOp addD (fFld 3 (fVar 0)) (fVar 2))) (fNx)) (fRet (fIf (fBl (fOp ltD (fVar 1) (fFld 3 (fVar 0)))) (fVar 1) (fOp subD (fVar 1) (fOp mulU (fC (.int 3)) (fFld 0 (fVar 0)))))))
def m_position_of : FM := run false 3 g_position_of
def g_is_telling : MS := fRet (fOr (fOp ltD (fVar 1) (fFld 3 (fVar 0))) (fAnd (fOp isNN (fCall 2 m_block_of (fCons (fVar 0) (fCons (fVar 1) (fNil)))) (fC .non)) (fOp eqD (fOp andD (fCB (c1 intD) (fCons (fOp subD (fVar 1) (fFld 3 (fVar 0))) (fNil))) (fC (.int 3))) (fC (.int 0)))))
def m_is_telling : FM := run false 2 g_is_telling
def g__law_same (m_rec : FM) : MS := fSeq (fIfS (fBl (fOp isN (fVar 1) (fC .non))) (fRet (fOp isN (fVar 0) (fC .non))) (fNx)) (fSeq (fIfS (fTru (fIs TN.bool (fVar 1))) (fRet (fAnd (fIs TN.bool (fVar 0)) (fOp eqD (fVar 0) (fVar 1)))) (fNx)) (fSeq (fIfS (fTru (fIs TN.int (fVar 1))) (fRet (fAnd (fIs TN.int (fVar 0)) (fAnd (fNot (fIs TN.bool (fVar 0))) (fOp eqD (fVar 0) (fVar 1))))) (fNx)) (fSeq (fIfS (fTru (fIs TN.str (fVar 1))) (fRet (fAnd (fIs TN.str (fVar 0)) (fOp eqD (fVar 0) (fVar 1)))) (fNx)) (fSeq (fIfS (fOrT (fAndT (fTru (fIs TN.list (fVar 1))) (fNotT (fTru (fIs TN.list (fVar 0))))) (fAndT (fTru (fIs TN.tuple (fVar 1))) (fNotT (fTru (fIs TN.tuple (fVar 0)))))) (fRet (fC (.bl false))) (fNx)) (fRet (fAnd (fOp eqD (fCB (c1 lenD) (fCons (fVar 0) (fNil))) (fCB (c1 lenD) (fCons (fVar 1) (fNil)))) (fOp eqD (fLc (fRng1 (fCB (c1 lenD) (fCons (fVar 1) (fNil)))) (gNm 2) (fNotT (fTru (fCall 2 m_rec (fCons (fOp ixD (fVar 0) (fVar 2)) (fCons (fOp ixD (fVar 1) (fVar 2)) (fNil)))))) (fC (.int 1)) [2]) (fLst (fNil)))))))))
def m__law_same : Nat → FM
  | 0 => fun _ _ => none
  | n + 1 => run false 3 (g__law_same (m__law_same n))
def g_cell_blocks : MS := fRet (fCB (c1 tupleD) (fCons (fLc (fRng1 (fCB (c1 lenD) (fCons (fFld 5 (fVar 0)) (fNil)))) (gNm 1) (fBl (fOp isNN (fOp ixD (fFld 5 (fVar 0)) (fVar 1)) (fC .non))) (fVar 1) [1]) (fNil)))
def m_cell_blocks : FM := run false 2 g_cell_blocks
def g_joints_of : MS := fRet (fLc2 (fRng1 (fCB (c1 lenD) (fCons (fFld 6 (fVar 0)) (fNil)))) (gNm 1) (ret true) (fSrc (fOp ixD (fFld 6 (fVar 0)) (fVar 1))) (gNm 2) (ret true) (fTup (fCons (fVar 1) (fCons (fVar 2) (fNil)))) [1, 2] [2])
def m_joints_of : FM := run false 3 g_joints_of
def g_joined_pins : MS := fRet (fCB (c1 tupleD) (fCons (fCB (c1 sortedD) (fCons (fDc2 (fSrc (fFld 6 (fVar 0))) (gNm 1) (ret true) (fSrc (fVar 1)) (gNm 2) (ret true) (fVar 2) (fC (.bl true)) [1, 2] [2]) (fNil))) (fNil)))
def m_joined_pins : FM := run false 3 g_joined_pins
def g_bare_plan : MS := fRet (fCall 2 (makeD false 21 m_Plan_init) (fCons (fOp mulU (fTup (fCons (fC .non) (fNil))) (fFld 0 (fVar 0))) (fCons (fOp mulU (fTup (fCons (fTup (fNil)) (fNil))) (fFld 1 (fVar 0))) (fNil))))
def m_bare_plan : FM := run false 1 g_bare_plan
def g__law_place_of : MS := fSeq (fIfS (fBl (fOp ltD (fVar 1) (fFld 3 (fVar 0)))) (fRet (fVar 1)) (fNx)) (fSeq (fIfS (fBl (fOp ltD (fVar 1) (fOp addD (fFld 3 (fVar 0)) (fOp mulU (fC (.int 4)) (fFld 0 (fVar 0)))))) (fRet (fOp addD (fFld 3 (fVar 0)) (fOp (i2 fdivI) (fOp subD (fVar 1) (fFld 3 (fVar 0))) (fC (.int 4))))) (fNx)) (fRet (fOp subD (fOp subD (fOp addD (fOp addD (fFld 3 (fVar 0)) (fFld 0 (fVar 0))) (fVar 1)) (fFld 3 (fVar 0))) (fOp mulU (fC (.int 4)) (fFld 0 (fVar 0))))))
def m__law_place_of : FM := run false 2 g__law_place_of
def g_City_block_pin : MS := fRet (fOp addD (fOp addD (fFld 3 (fVar 0)) (fOp mulU (fC (.int 4)) (fVar 1))) (fVar 2))
def m_City_block_pin : FM := run false 3 g_City_block_pin
def g_law : MS := fSeq (fAsg (fCall 1 m__law_start (fCons (fVar 0) (fNil))) (gNm 1)) (fSeq (fAsg (fLc (fRng1 (fC (.int 4))) (gNm 6) (ret true) (fCall 2 m__law_pick (fCons (fVar 1) (fCons (fC (.int 4)) (fNil)))) [6]) (gNm 2)) (fSeq (fAsg (fCall 4 (makeD false 20 m_City_init) (fCons (fOp ixD (fVar 2) (fC (.int 0))) (fCons (fOp ixD (fVar 2) (fC (.int 1))) (fCons (fOp ixD (fVar 2) (fC (.int 2))) (fCons (fOp ixD (fVar 2) (fC (.int 3))) (fNil)))))) (gNm 3)) (fSeq (fAsg (fCall 1 m__law_pins (fCons (fVar 3) (fNil))) (gNm 4)) (fSeq (fIfS (fOrT (fBl (fOp neD (fMeth0 20 m_City_pin_count (fVar 3)) (fCB (c1 lenD) (fCons (fVar 4) (fNil))))) (fOrT (fBl (fOp neD (fMeth0 20 m_City_numbers (fVar 3)) (fCB (c1 tupleD) (fCons (fVar 2) (fNil))))) (fBl (fOp neD (fC (.int 200)) (fC (.int 200)))))) (fRet (fC (.bl false))) (fNx)) (fSeq (fAsg (fLc (fRng1 (fCB (c1 lenD) (fCons (fVar 4) (fNil)))) (gNm 11) (ret true) (fTup (fCons (fCall 2 m_pin_name (fCons (fVar 3) (fCons (fVar 11) (fNil)))) (fCons (fCall 2 m_position_of (fCons (fVar 3) (fCons (fVar 11) (fNil)))) (fCons (fCall 2 m_is_telling (fCons (fVar 3) (fCons (fVar 11) (fNil)))) (fCons (fCall 2 m_block_of (fCons (fVar 3) (fCons (fVar 11) (fNil)))) (fNil)))))) [11]) (gNm 5)) (fSeq (fIfS (fOrT (fNotT (fTru (fCall 2 (m__law_same 8) (fCons (fVar 5) (fCons (fVar 4) (fNil)))))) (fBl (fOp neD (fLc (fRng1 (fCB (c1 lenD) (fCons (fVar 4) (fNil)))) (gNm 11) (ret true) (fCall 2 m_position_of (fCons (fVar 3) (fCons (fVar 11) (fNil)))) [11]) (fLc (fRng1 (fCB (c1 lenD) (fCons (fVar 4) (fNil)))) (gNm 11) (ret true) (fCall 2 m__law_place_of (fCons (fVar 3) (fCons (fVar 11) (fNil)))) [11])))) (fRet (fC (.bl false))) (fNx)) (fSeq (fFor (fRng1 (fFld 0 (fVar 3))) (gNm 6) (fIfS (fBl (fOp neD (fLc (fRng1 (fC (.int 4))) (gNm 12) (ret true) (fMeth 20 2 m_City_block_pin (fVar 3) (fCons (fVar 6) (fCons (fVar 12) (fNil)))) [12]) (fLc (fRng1 (fC (.int 4))) (gNm 12) (ret true) (fOp addD (fOp addD (fFld 3 (fVar 3)) (fOp mulU (fC (.int 4)) (fVar 6))) (fVar 12)) [12]))) (fRet (fC (.bl false))) (fNx))) (fSeq (fIfS (fBl (fOp neD (fLc (fRng1 (fFld 4 (fVar 3))) (gNm 13) (ret true) (fMeth 20 1 m_City_out_pin (fVar 3) (fCons (fVar 13) (fNil))) [13]) (fLc (fRng1 (fFld 4 (fVar 3))) (gNm 13) (ret true) (fOp addD (fOp addD (fFld 3 (fVar 3)) (fOp mulU (fC (.int 4)) (fFld 0 (fVar 3)))) (fVar 13)) [13]))) (fRet (fC (.bl false))) (fNx)) (fSeq (fAsg (fCall 2 m__law_drawn (fCons (fVar 1) (fCons (fVar 3) (fNil)))) (gNm 7)) (fSeq (fAsg (fCB (c1 tupleD) (fCons (fLc (fRng1 (fFld 0 (fVar 3))) (gNm 6) (fBl (fOp isNN (fOp ixD (fFld 5 (fVar 7)) (fVar 6)) (fC .non))) (fVar 6) [6]) (fNil))) (gNm 8)) (fSeq (fAsg (fLst (fNil)) (gNm 9)) (fSeq (fFor (fRng1 (fFld 1 (fVar 3))) (gNm 10) (fAsg (fOp addD (fVar 9) (fLc (fSrc (fOp ixD (fFld 6 (fVar 7)) (fVar 10))) (gNm 11) (ret true) (fTup (fCons (fVar 10) (fCons (fVar 11) (fNil)))) [11])) (gNm 9))) (fSeq (fIfS (fOrT (fBl (fOp isNN (fCall 2 m_plan_misfit (fCons (fVar 3) (fCons (fVar 7) (fNil)))) (fC .non))) (fOrT (fBl (fOp neD (fCall 1 m_cell_blocks (fCons (fVar 7) (fNil))) (fVar 8))) (fOrT (fBl (fOp neD (fCall 1 m_joints_of (fCons (fVar 7) (fNil))) (fVar 9))) (fBl (fOp neD (fCall 1 m_joined_pins (fCons (fVar 7) (fNil))) (fCB (c1 tupleD) (fCons (fCB (c1 sortedD) (fCons (fCB (c1 setD) (fCons (fLc (fSrc (fVar 9)) (gTp 2 (gCn (gNm 10) (gCn (gNm 11) (gNl)))) (ret true) (fVar 11) [10, 11]) (fNil))) (fNil))) (fNil)))))))) (fRet (fC (.bl false))) (fNx)) (fSeq (fIfS (fOrT (fBl (fOpM (eqI true 21 m_Plan_eq) (fCall 1 m_bare_plan (fCons (fVar 3) (fNil))) (fCall 2 (makeD false 21 m_Plan_init) (fCons (fOp mulU (fTup (fCons (fC .non) (fNil))) (fFld 0 (fVar 3))) (fCons (fOp mulU (fTup (fCons (fTup (fNil)) (fNil))) (fFld 1 (fVar 3))) (fNil)))))) (fOrT (fBl (fOp isNN (fCall 2 m__law_refused (fCons (fC (.int 2)) (fCons (fLst (fCons (fVar 3) (fCons (fVar 7) (fNil)))) (fNil)))) (fC .non))) (fBl (fOpM (eqI true 21 m_Plan_eq) (fVar 7) (fCall 2 (makeD false 21 m_Plan_init) (fCons (fFld 5 (fVar 7)) (fCons (fFld 6 (fVar 7)) (fNil)))))))) (fRet (fC (.bl false))) (fNx)) (fRet (fAnd (fCall 3 m__law_changes (fCons (fVar 1) (fCons (fVar 3) (fCons (fVar 7) (fNil))))) (fCall 3 m__law_wrong (fCons (fVar 1) (fCons (fVar 3) (fCons (fVar 7) (fNil)))))))))))))))))))))
def m_law : FM := run false 14 g_law
end
end LW
set_option Elab.async false
set_option maxRecDepth 100000
set_option maxHeartbeats 4000000
set_option linter.all false
set_option autoImplicit false
namespace LW
open PySem L2 VM
/-! ### the tape -/
/-- what is read of the script: its place, the wide number, the seed -/
structure Tau where
  ns : List Int
  p : Int
  r : Int
  z : Int
  hp : 0 ≤ p
  hr : 0 ≤ r
  hz : 0 ≤ z
  hz2 : z ≤ 2147483647
def tp (τ : Tau) : SO := .lst [.lck (τ.ns.map D.int), .int τ.p, .int τ.r, .int τ.z]
@[simp] theorem lowS_tp (n : Nat) (τ : Tau) : lowS n (tp τ) = true := by
  simp only [tp, lowS, lows, low, lows_int, Bool.and_self]
theorem atI_ints {ns : List Int} {p : Int} (h0 : 0 ≤ p) (h : p < ns.length) : ∃ c, atI (ns.map D.int) p = some (.int c) := by
  refine ⟨ns[p.toNat]'(by omega), ?_⟩
  rw [atI_pos _ h0, List.getElem?_map, List.getElem?_eq_getElem (by omega)]
  rfl
theorem mulI_of {i j : Int} (h : mulOk i j = true) : mulI i j = some (.int (i * j)) := if_pos h
theorem fin_of {s : Sto} {i : Int} {kp : Bool} {n : Nat} (hn : n = s.length) (hs : Low s) : fin kp n (.int i) s = some (.ok (.int i) s) := by
  subst hn
  exact fin_low hs rfl
theorem pick_ok (τ : Tau) (many : Int) (h1 : 0 < many) (h2 : many < 1073741824) :
    ∃ (d : Int) (τ' : Tau), (∀ s : Sto, s.all (lowS (s.length + 1)) = true → m__law_pick (tp τ :: s) [.own 0, .int many] = some (.ok (.int d) (tp τ' :: s))) ∧ 0 ≤ d ∧ d < many := by
  have hL : ∀ (s : Sto) τ', s.all (lowS (s.length + 1)) = true → Low (tp τ' :: s) := fun s τ' hs => by
    unfold Low
    simp only [List.all_cons, lowS_tp, Bool.true_and, List.length_cons]
    exact hs
  have hm : many ≠ 0 := by omega
  have hd : dvOk many = true := (dvOk_iff _).mpr ⟨h1, h2⟩
  obtain ⟨ns, p, r, z, hp, hr, hz, hz2⟩ := τ
  have hz3 : 0 ≤ z * 48271 % 2147483647 := Int.emod_nonneg _ (by decide)
  have hz4 : z * 48271 % 2147483647 < 2147483647 := Int.emod_lt_of_pos _ (by decide)
  have m2 : ∀ z : Int, mulI (z * 48271 % 2147483647) (z * 48271 % 2147483647) = some (.int ((z * 48271 % 2147483647) * (z * 48271 % 2147483647))) := fun z => mulI_of ((mulOk_iff _ _).mpr (.inl (by have := Int.emod_nonneg (z * 48271) (show (2147483647 : Int) ≠ 0 by decide); have := Int.emod_lt_of_pos (z * 48271) (show (0 : Int) < 2147483647 by decide); omega)))
  have m1' : ∀ z : Int, mulI z 48271 = some (.int (z * 48271)) := fun z => mulI_of (by simp)
  have fin' : ∀ (i : Int) (τ' : Tau) (s : Sto), s.all (lowS (s.length + 1)) = true → fin false (s.length + 1) (.int i) (.lst [.lck (τ'.ns.map D.int), .int τ'.p, .int τ'.r, .int τ'.z] :: s) = some (.ok (.int i) (tp τ' :: s)) := fun i τ' s hs => fin_of (s := tp τ' :: s) rfl (hL s τ' hs)
  by_cases h : r = 0
  · by_cases hl : p < ns.length
    · obtain ⟨c, hc⟩ := atI_ints hp hl
      have hc0 : 0 ≤ (if c < 0 then -c else c) := by split <;> omega
      by_cases hb : 1000000000000000000 ≤ (if c < 0 then -c else c)
      · have h0 : 0 < (if c < 0 then -c else c) := by omega
        let τ' : Tau := ⟨ns, p + 1, (if c < 0 then -c else c) / many, z, by omega, Int.ediv_nonneg hc0 (by omega), hz, hz2⟩
        refine ⟨(if c < 0 then -c else c) % many, τ', fun s hs => ?_, Int.emod_nonneg _ hm, Int.emod_lt_of_pos _ h1⟩
        rw [← fin' _ τ' s hs]
        simp [m__law_pick, VM.run, g__law_pick, startD, tp, h, powI, modI, fdivI, hl, hc, hb, h1, hd, putD_own, h0, τ']
      · have e0 := Int.emod_nonneg (z * 48271 + (if c < 0 then -c else c)) (show (2147483646 : Int) ≠ 0 by decide)
        let τ' : Tau := ⟨ns, p + 1, 0, ((z * 48271 + (if c < 0 then -c else c)) % 2147483646 + 1) * 48271 % 2147483647, by omega, by decide, Int.emod_nonneg _ (by decide), by have := Int.emod_lt_of_pos (((z * 48271 + (if c < 0 then -c else c)) % 2147483646 + 1) * 48271) (show (0 : Int) < 2147483647 by decide); omega⟩
        refine ⟨(τ'.z / 5 + τ'.z * τ'.z % 2147483629) % many, τ', fun s hs => ?_, Int.emod_nonneg _ hm, Int.emod_lt_of_pos _ h1⟩
        rw [← fin' _ τ' s hs]
        simp [m__law_pick, VM.run, g__law_pick, startD, tp, h, powI, modI, fdivI, hl, hc, hb, h1, hd, putD_own, m1', m2, τ']
    · let τ' : Tau := ⟨ns, p, 0, z * 48271 % 2147483647, hp, by decide, hz3, by omega⟩
      refine ⟨(τ'.z / 5 + τ'.z * τ'.z % 2147483629) % many, τ', fun s hs => ?_, Int.emod_nonneg _ hm, Int.emod_lt_of_pos _ h1⟩
      rw [← fin' _ τ' s hs]
      simp [m__law_pick, VM.run, g__law_pick, startD, tp, h, powI, modI, fdivI, hl, h1, hd, putD_own, m1', m2, τ']
  · have h0 : 0 < r := by omega
    let τ' : Tau := ⟨ns, p, r / many, z, hp, Int.ediv_nonneg hr (by omega), hz, hz2⟩
    refine ⟨r % many, τ', fun s hs => ?_, Int.emod_nonneg _ hm, Int.emod_lt_of_pos _ h1⟩
    rw [← fin' _ τ' s hs]
    simp [m__law_pick, VM.run, g__law_pick, startD, tp, h, powI, modI, fdivI, h1, hd, putD_own, h0, τ']
/-- what is drawn below a limit; the tape behind -/
noncomputable def dr (τ : Tau) (many : Int) : Int := if h : 0 < many ∧ many < 1073741824 then Classical.choose (pick_ok τ many h.1 h.2) else 0
noncomputable def nx (τ : Tau) (many : Int) : Tau := if h : 0 < many ∧ many < 1073741824 then Classical.choose (Classical.choose_spec (pick_ok τ many h.1 h.2)) else τ
theorem dr_lo (τ : Tau) (many : Int) : 0 ≤ dr τ many := by
  unfold dr
  split
  · rename_i h
    exact (Classical.choose_spec (Classical.choose_spec (pick_ok τ many h.1 h.2))).2.1
  · exact Int.le_refl _
theorem dr_hi (τ : Tau) {many : Int} (h1 : 0 < many) : dr τ many < many := by
  unfold dr
  split
  · rename_i h
    exact (Classical.choose_spec (Classical.choose_spec (pick_ok τ many h.1 h.2))).2.2
  · exact h1
theorem pick_ap {τ : Tau} {s : Sto} {many : Int} (h1 : 0 < many) (h2 : many < 1073741824) (hs : s.all (lowS (s.length + 1)) = true) :
    m__law_pick (tp τ :: s) [.own 0, .int many] = some (.ok (.int (dr τ many)) (tp (nx τ many) :: s)) := by
  unfold dr nx
  rw [dif_pos ⟨h1, h2⟩, dif_pos ⟨h1, h2⟩]
  exact (Classical.choose_spec (Classical.choose_spec (pick_ok τ many h1 h2))).1 s hs
end LW
set_option Elab.async false
set_option maxRecDepth 100000
set_option maxHeartbeats 4000000
set_option linter.all false
set_option autoImplicit false
namespace LW
open PySem L2 VM
/-! ### numbers from zero on -/
def ifz (lim : Int) : D → Bool
  | .int i => decide (0 ≤ i) && decide (i < lim)
  | _ => false
section
variable {s : Sto} (hs : Low s)
include hs
theorem ifz_ap {d : D} {lim : Int} (hp : plv d = true) : m_is_from_zero s [d, .int lim] = some (.ok (.bl (ifz lim d)) s) := by
  cases d <;> (try (simp [plv] at hp; done))
  case int i =>
    by_cases h : 0 ≤ i <;> simp [m_is_from_zero, VM.run, g_is_from_zero, startD, ifz, h, finB hs]
  all_goals simp [m_is_from_zero, VM.run, g_is_from_zero, startD, ifz, finB hs]
end
/-! ### cities -/
def cityD (i b o l : Int) : D := .ins 20 [3, 0, 4, 1] [.int i, .int b, .int o, .int l]
section
variable {s : Sto} (hs : Low s) {i b o l j k : Int}
include hs
theorem pinc_ap : m_City_pin_count s [cityD i b o l] = some (.ok (.int (i + 4 * b + o)) s) := by
  simp [m_City_pin_count, VM.run, g_City_pin_count, startD, cityD, mulI, finI hs]
theorem numbers_ap : m_City_numbers s [cityD i b o l] = some (.ok (.tup [.int i, .int b, .int o, .int l]) s) := by
  simp [m_City_numbers, VM.run, g_City_numbers, startD, cityD]
  exact fin_low hs rfl
theorem outpin_ap : m_City_out_pin s [cityD i b o l, .int j] = some (.ok (.int (i + 4 * b + j)) s) := by
  simp [m_City_out_pin, VM.run, g_City_out_pin, startD, cityD, mulI, finI hs]
theorem blockpin_ap : m_City_block_pin s [cityD i b o l, .int k, .int j] = some (.ok (.int (i + 4 * k + j)) s) := by
  simp [m_City_block_pin, VM.run, g_City_block_pin, startD, cityD, mulI, finI hs]
end
section
variable {s : Sto} (hs : Low s) {a b c d : D}
include hs
theorem cityinit_ok (ha : ifz 201 a = true) (hb : ifz 201 b = true) (hc : ifz 201 c = true) (hd : ifz 201 d = true) (pa : plv a = true) (pb : plv b = true) (pc : plv c = true) (pd : plv d = true) :
    m_City_init (s ++ [.ins 20 [] []]) [.own s.length, a, b, c, d] = some (.ok .non (s ++ [.ins 20 [3, 0, 4, 1] [a, b, c, d]])) := by
  have hs2 : ∀ ns vs, lows (s.length + 1) vs = true → Low (s ++ [.ins 20 ns vs]) := fun ns vs h => hs.snoc h
  have h0 := hs2 [] [] rfl
  have ff : fin false (s ++ [SO.ins 20 [] []]).length .non (s ++ [.ins 20 [3, 0, 4, 1] [a, b, c, d]]) = some (.ok .non (s ++ [.ins 20 [3, 0, 4, 1] [a, b, c, d]])) := by
    rw [show (s ++ [SO.ins 20 [] []]).length = (s ++ [SO.ins 20 [3, 0, 4, 1] [a, b, c, d]]).length by simp]
    refine fin_low (hs2 _ _ ?_) rfl
    cases a <;> first | (cases ha; done) | skip
    cases b <;> first | (cases hb; done) | skip
    cases c <;> first | (cases hc; done) | skip
    cases d <;> first | (cases hd; done) | skip
    rfl
  simp only [List.length_append, List.length_singleton] at ff
  simp [m_City_init, VM.run, g_City_init, startD, rngD_4, forL_cons, forL_nil, ifz_ap h0, pa, pb, pc, pd, ha, hb, hc, hd, setF_own, putN_cons, putN_nil, ff]
theorem cityinit_no {k : Nat} (hk : k < 4) (h : ∀ j, j < k → ifz 201 ([a, b, c, d].getD j .non) = true) (hk2 : ifz 201 ([a, b, c, d].getD k .non) = false) (pa : plv a = true) (pb : plv b = true) (pc : plv c = true) (pd : plv d = true) :
    m_City_init (s ++ [.ins 20 [] []]) [.own s.length, a, b, c, d] = some (.ex ⟨10, .int k⟩ (s ++ [.ins 20 [] []])) := by
  have h0 : Low (s ++ [.ins 20 [] []]) := hs.snoc rfl
  have ff : ∀ i, finX (s ++ [SO.ins 20 [] []]).length ⟨10, .int i⟩ (s ++ [.ins 20 [] []]) = some (.ex ⟨10, .int i⟩ (s ++ [.ins 20 [] []])) := fun i => finX_low h0 rfl
  simp only [List.length_append, List.length_singleton] at ff
  have hh : k = 0 ∨ k = 1 ∨ k = 2 ∨ k = 3 := by omega
  have j0 := h 0
  have j1 := h 1
  have j2 := h 2
  rcases hh with rfl | rfl | rfl | rfl <;> simp at hk2 j0 j1 j2 <;> simp [m_City_init, VM.run, g_City_init, startD, rngD_4, forL_cons, forL_nil, ifz_ap h0, pa, pb, pc, pd, hk2, j0, j1, j2, ff]
theorem city_ok {i b o l : Int} (h1 : 0 ≤ i ∧ i < 201) (h2 : 0 ≤ b ∧ b < 201) (h3 : 0 ≤ o ∧ o < 201) (h4 : 0 ≤ l ∧ l < 201) : makeD false 20 m_City_init s [.int i, .int b, .int o, .int l] = some (.ok (cityD i b o l) s) := by
  unfold makeD
  rw [cityinit_ok hs (by simp [ifz, h1]) (by simp [ifz, h2]) (by simp [ifz, h3]) (by simp [ifz, h4]) rfl rfl rfl rfl]
  exact fin_frz hs rfl
theorem city_no {k : Nat} (hk : k < 4) (h : ∀ j, j < k → ifz 201 ([a, b, c, d].getD j .non) = true) (hk2 : ifz 201 ([a, b, c, d].getD k .non) = false) (pa : plv a = true) (pb : plv b = true) (pc : plv c = true) (pd : plv d = true) :
    makeD false 20 m_City_init s [a, b, c, d] = some (.ex ⟨10, .int k⟩ s) := by
  unfold makeD
  rw [cityinit_no hs hk h hk2 pa pb pc pd]
  exact finX_app hs rfl
end
end LW
set_option Elab.async false
set_option maxRecDepth 100000
set_option maxHeartbeats 4000000
set_option linter.all false
set_option autoImplicit false
namespace LW
open PySem L2 VM
/-! ### pins -/
/-- the block of a pin -/
def blk (i b p : Int) : D := if 0 ≤ (p - i) / 4 ∧ (p - i) / 4 < b then .int ((p - i) / 4) else .non
section
variable {s : Sto} (hs : Low s) {i b o l p : Int}
include hs
theorem blk_ap : m_block_of s [cityD i b o l, .int p] = some (.ok (blk i b p) s) := by
  have h4 : dvOk 4 = true := by simp
  by_cases h1 : 0 ≤ (p - i) / 4 <;> by_cases h2 : (p - i) / 4 < b <;> simp [m_block_of, VM.run, g_block_of, startD, cityD, fdivI, h1, h2, blk, finI hs, finN hs]
theorem pos_ap (hb : 0 ≤ b ∧ b < 1000) : m_position_of s [cityD i b o l, .int p] = some (.ok (.int (if 0 ≤ (p - i) / 4 ∧ (p - i) / 4 < b then i + (p - i) / 4 else if p < i then p else p - 3 * b)) s) := by
  by_cases h1 : 0 ≤ (p - i) / 4 ∧ (p - i) / 4 < b
  · simp [m_position_of, VM.run, g_position_of, startD, blk_ap hs, blk, if_pos h1, finI hs]
    simp [cityD, finI hs, h1]
  · by_cases h2 : p < i <;> simp [m_position_of, VM.run, g_position_of, startD, blk_ap hs, blk, if_neg h1] <;> simp [cityD, finI hs, h1, h2, mulI]
end
def nmI (k : Nat) : Str := ("i" : Str) ++ istr (k : Int)
def nmB (k j : Nat) : Str := ((("b" : Str) ++ istr (k : Int)) ++ ("." : Str)) ++ istr (j : Int)
def nmO (k : Nat) : Str := ("o" : Str) ++ istr (k : Int)
def rowA (k : Nat) : D := .tup [.str (nmI k), .int k, .bl true, .non]
def rowB (i : Nat) (k j : Nat) : D := .tup [.str (nmB k j), .int (i + k : Nat), .bl (decide (j = 0)), .int k]
def rowC (i b : Nat) (k : Nat) : D := .tup [.str (nmO k), .int (i + b + k : Nat), .bl false, .non]
theorem len_lit1 (c : String) (h : (Str.ofString c).length = 1 := by decide) : (Str.ofString c).length = 1 := h
theorem nmI_len {k : Nat} (h : k < 64) : 1 + (istr (k : Int)).length ≤ LIM := le_LIM (by have := istr_len64 k h; omega)
section
variable {s : Sto} (hs : Low s) {i b o l : Nat}
include hs
theorem blkA {k : Nat} (h : k < i) : m_block_of s [cityD i b o l, .int k] = some (.ok .non s) := by
  rw [blk_ap hs, blk, if_neg (by omega)]
theorem blkB {k j : Nat} (h : k < b) (hj : j < 4) : m_block_of s [cityD i b o l, .int (i + 4 * k + j : Nat)] = some (.ok (.int k) s) := by
  rw [blk_ap hs, blk, if_pos (by omega)]
  congr 2
  congr 1
  omega
theorem blkC {k : Nat} : m_block_of s [cityD i b o l, .int (i + 4 * b + k : Nat)] = some (.ok .non s) := by
  rw [blk_ap hs, blk, if_neg (by omega)]
theorem nameA {k : Nat} (h : k < i) (h2 : k < 64) : m_pin_name s [cityD i b o l, .int k] = some (.ok (.str (nmI k)) s) := by
  have e := nmI_len h2
  have e1 : strI (k : Int) = true := strI_small (by omega)
  simp [m_pin_name, VM.run, g_pin_name, startD, blkA hs h]
  simp [cityD, h, e1, len_lit1 "i", e, nmI, finS hs]
theorem nameC {k : Nat} (h2 : k < 64) : m_pin_name s [cityD i b o l, .int (i + 4 * b + k : Nat)] = some (.ok (.str (nmO k)) s) := by
  have e := nmI_len h2
  have e1 : strI (k : Int) = true := strI_small (by omega)
  have e2 : ¬ ((i : Int) + 4 * b + k < i) := by omega
  have e3 : (i : Int) + 4 * b + k - (i + 4 * b) = k := by omega
  have q := blkC (k := k) (i := i) (b := b) (o := o) (l := l) hs
  have q2 := outpin_ap (i := i) (b := b) (o := o) (l := l) (j := 0) hs
  simp at q q2
  simp [m_pin_name, VM.run, g_pin_name, startD, q]
  have q3 := q2
  simp [cityD] at q2
  simp [cityD, e1, e2, e3, len_lit1 "o", e, nmO, finS hs, q2]
theorem nameB {k j : Nat} (h : k < b) (h2 : k < 64) (hj : j < 4) : m_pin_name s [cityD i b o l, .int (i + 4 * k + j : Nat)] = some (.ok (.str (nmB k j)) s) := by
  have e := istr_len64 k h2
  have e' := istr_len64 j (by omega)
  have e1 : strI (k : Int) = true := strI_small (by omega)
  have e2 : strI (j : Int) = true := strI_small (by omega)
  have q := blkB (i := i) (o := o) (l := l) hs h hj
  have e3 : ((i : Int) + 4 * k + j - i) % 4 = j := by omega
  have l1 : 1 + (istr (k : Int)).length ≤ LIM := le_LIM (by omega)
  have l2 : 1 + (istr (k : Int)).length + 1 ≤ LIM := le_LIM (by omega)
  have l3 : 1 + (istr (k : Int)).length + 1 + (istr (j : Int)).length ≤ LIM := le_LIM (by omega)
  simp at q
  simp [m_pin_name, VM.run, g_pin_name, startD, q]
  simp [cityD, PyProof.Rows.bitAnd_m2, e1, e2, e3, len_lit1 "b", len_lit1 ".", Str.length_append, l1, l2, l3, nmB, finS hs]
end
end LW
set_option Elab.async false
set_option maxRecDepth 100000
set_option maxHeartbeats 4000000
set_option linter.all false
set_option autoImplicit false
namespace LW
open PySem L2 VM
/-- the rows of the first n blocks -/
def rowsB (i : Nat) : Nat → List D
  | 0 => []
  | n + 1 => rowsB i n ++ (List.range 4).map (rowB i n)
@[simp] theorem rowsB_len (i : Nat) : ∀ n, (rowsB i n).length = n * 4
  | 0 => rfl
  | n + 1 => by
    rw [rowsB, List.length_append, rowsB_len i n, List.length_map, List.length_range]
    omega
def allRows (i b o : Nat) : List D := (List.range i).map rowA ++ rowsB i b ++ (List.range o).map (rowC i b)
section
variable {s : Sto} (hs : Low s) {i b o l : Nat}
include hs
theorem telA {k : Nat} (h : k < i) : m_is_telling s [cityD i b o l, .int k] = some (.ok (.bl true) s) := by
  simp [m_is_telling, VM.run, g_is_telling, startD, cityD, h, finB hs]
theorem telB {k j : Nat} (h : k < b) (hj : j < 4) : m_is_telling s [cityD i b o l, .int (i + 4 * k + j : Nat)] = some (.ok (.bl (decide (j = 0))) s) := by
  have q := blkB (i := i) (o := o) (l := l) hs h hj
  have e3 : ((i : Int) + 4 * k + j - i) % 4 = j := by omega
  have e2 : ¬ ((i : Int) + 4 * k + j < i) := by omega
  have e4 : ((j : Int) = 0) = (j = 0) := by rw [eq_iff_iff]; omega
  simp [cityD] at q
  simp [m_is_telling, VM.run, g_is_telling, startD, cityD, e2, q, PyProof.Rows.bitAnd_m2, e3, e4, finB hs]
theorem telC {k : Nat} : m_is_telling s [cityD i b o l, .int (i + 4 * b + k : Nat)] = some (.ok (.bl false) s) := by
  have e2 : ¬ ((i : Int) + 4 * b + k < i) := by omega
  have q := blkC (k := k) (i := i) (b := b) (o := o) (l := l) hs
  simp [cityD] at q
  simp [m_is_telling, VM.run, g_is_telling, startD, cityD, e2, q, finB hs]
theorem posA {k : Nat} (hb : b < 1000) (h : k < i) : m_position_of s [cityD i b o l, .int k] = some (.ok (.int k) s) := by
  rw [pos_ap hs (by omega), if_neg (by omega), if_pos (by omega)]
theorem posB {k j : Nat} (hb : b < 1000) (h : k < b) (hj : j < 4) : m_position_of s [cityD i b o l, .int (i + 4 * k + j : Nat)] = some (.ok (.int (i + k : Nat)) s) := by
  rw [pos_ap hs (by omega), if_pos (by omega)]
  congr 3
  omega
theorem posC {k : Nat} (hb : b < 1000) : m_position_of s [cityD i b o l, .int (i + 4 * b + k : Nat)] = some (.ok (.int (i + b + k : Nat)) s) := by
  rw [pos_ap hs (by omega), if_neg (by omega), if_neg (by omega)]
  congr 3
  omega
theorem place_ap {p : Int} : m__law_place_of s [cityD i b o l, .int p] = some (.ok (.int (if p < i then p else if p < i + 4 * b then i + (p - i) / 4 else i + b + p - i - 4 * b)) s) := by
  by_cases h1 : p < i
  · simp [m__law_place_of, VM.run, g__law_place_of, startD, cityD, h1, finI hs]
  · by_cases h2 : p < i + 4 * b <;> simp [m__law_place_of, VM.run, g__law_place_of, startD, cityD, h1, h2, finI hs, mulI, fdivI]
theorem pins_ap (hi : i < 64) (hb : b < 64) (ho : o < 64) : m__law_pins s [cityD i b o l] = some (.ok (.lst (allRows i b o)) s) := by
  have s1 : smallI (i : Int) = true := smallI_nat (le_LIM (by omega))
  have s2 : smallI (b : Int) = true := smallI_nat (le_LIM (by omega))
  have s3 : smallI (o : Int) = true := smallI_nat (le_LIM (by omega))
  have l1 : i ≤ LIM := le_LIM (by omega)
  have l3 : o ≤ LIM := le_LIM (by omega)
  have r : ∀ ds, low s.length (.lst ds) = true → fin false s.length (.lst ds) s = some (.ok (.lst ds) s) := fun ds h => fin_low hs h
  simp [m__law_pins, VM.run, g__law_pins, startD, cityD, s1, fLc_ap, l1]
  rw [lcL_rng (F := rowA)]
  rotate_left
  · intro k hk
    have e1 : strI (k : Int) = true := strI_small (by omega)
    have e2 := nmI_len (k := k) (by omega)
    exact ⟨_, rfl, rfl, by simp [e1, len_lit1 "i", e2, rowA, nmI]⟩
  simp [s2]
  generalize hX : forL _ _ _ _ _ _ = X
  obtain ⟨ρ', s', rfl, x, y, rfl, rfl⟩ : ∃ ρ' s', X = some (.nx ρ' s') ∧ ∃ x y, ρ' = [some (cityD i b o l), some (.lst ((List.range i).map rowA ++ rowsB i b)), x, y] ∧ s' = s := by
    subst hX
    refine forL_rngP (P := fun n ρ' s' => ∃ x y, ρ' = [some (cityD i b o l), some (.lst ((List.range i).map rowA ++ rowsB i n)), x, y] ∧ s' = s) ⟨none, none, by simp [cityD, rowsB], rfl⟩ ?_
    rintro k hk _ _ ⟨x, y, rfl, rfl⟩
    refine ⟨_, rfl, ?_⟩
    have h1 := istr_len64 k (by omega)
    have e1 : strI (k : Int) = true := strI_small (by omega)
    simp [fLc_ap]
    rw [lcL_rng (F := rowB i k)]
    rotate_left
    · intro j hj
      have e2 : strI (j : Int) = true := strI_small (by omega)
      have h2 := istr_len64 j (by omega)
      have q1 : 1 + (istr (k : Int)).length ≤ LIM := le_LIM (by omega)
      have q2 : 1 + (istr (k : Int)).length + 1 ≤ LIM := le_LIM (by omega)
      have q3 : 1 + (istr (k : Int)).length + 1 + (istr (j : Int)).length ≤ LIM := le_LIM (by omega)
      exact ⟨_, rfl, rfl, by simp [e1, e2, len_lit1 "b", len_lit1 ".", Str.length_append, q1, q2, q3, rowB, nmB, cityD]⟩
    have q4 : i + (k * 4 + 4) ≤ LIM := le_LIM (by omega)
    have q6 : i + k * 4 + 4 ≤ LIM := le_LIM (by omega)
    simp [q4, q6, rowsB]
  have q5 : i + b * 4 + o ≤ LIM := le_LIM (by omega)
  simp [cityD, s3, fLc_ap, l3]
  rw [lcL_rng (F := rowC i b)]
  rotate_left
  · intro k hk
    have e1 : strI (k : Int) = true := strI_small (by omega)
    have e2 := nmI_len (k := k) (by omega)
    exact ⟨_, rfl, rfl, by simp [e1, len_lit1 "o", e2, rowC, nmO]⟩
  simp [q5, allRows]
  refine r _ ?_
  have hB : ∀ n, (rowsB i n).all (low s'.length) = true := fun n => by
    induction n with
    | zero => rfl
    | succ n ih => rw [rowsB, List.all_append, ih]; simp [rowB, low, lows]
  simp [low, lows_all, List.all_append, hB, rowA, rowC, lows]
end
end LW
set_option Elab.async false
set_option maxRecDepth 100000
set_option maxHeartbeats 4000000
set_option linter.all false
set_option autoImplicit false
namespace LW
open PySem L2 VM
/-- the row of a pin -/
def rowP (i b p : Nat) : D := if p < i then rowA p else if p < i + 4 * b then rowB i ((p - i) / 4) ((p - i) % 4) else rowC i b (p - i - 4 * b)
theorem rowsB_eq (i : Nat) : ∀ n, (List.range (4 * n)).map (fun q => rowB i (q / 4) (q % 4)) = rowsB i n
  | 0 => rfl
  | n + 1 => by
    rw [show 4 * (n + 1) = 4 * n + 4 by omega, List.range_add, List.map_append, rowsB_eq i n, rowsB, List.map_map]
    congr 1
    apply List.map_congr_left
    intro j hj
    have hj' := List.mem_range.mp hj
    show rowB i ((4 * n + j) / 4) ((4 * n + j) % 4) = rowB i n j
    rw [show (4 * n + j) / 4 = n by omega, show (4 * n + j) % 4 = j by omega]
theorem rows_eq (i b o : Nat) : (List.range (i + 4 * b + o)).map (rowP i b) = allRows i b o := by
  rw [List.range_add, List.range_add, List.map_append, List.map_append, List.map_map, List.map_map, allRows, ← rowsB_eq]
  congr 1
  · congr 1
    · apply List.map_congr_left
      intro p hp
      rw [rowP, if_pos (List.mem_range.mp hp)]
    · apply List.map_congr_left
      intro p hp
      have := List.mem_range.mp hp
      show rowP i b (i + p) = _
      rw [rowP, if_neg (by omega), if_pos (by omega), Nat.add_sub_cancel_left]
  · apply List.map_congr_left
    intro p hp
    show rowP i b (i + 4 * b + p) = _
    rw [rowP, if_neg (by omega), if_neg (by omega)]
    congr 1
    omega
theorem allRows_len (i b o : Nat) : (allRows i b o).length = i + 4 * b + o := by rw [← rows_eq, List.length_map, List.length_range]
section
variable {s : Sto} (hs : Low s) {i b o l : Nat}
include hs
/-- all that is told of a pin -/
theorem rowP_ap {p : Nat} (hp : p < i + 4 * b + o) (hi : i < 64) (hb : b < 64) (ho : o < 64) : ∃ (n : Str) (q : Int) (t : Bool) (k : D), m_pin_name s [cityD i b o l, .int p] = some (.ok (.str n) s) ∧ m_position_of s [cityD i b o l, .int p] = some (.ok (.int q) s) ∧
    m_is_telling s [cityD i b o l, .int p] = some (.ok (.bl t) s) ∧ m_block_of s [cityD i b o l, .int p] = some (.ok k s) ∧ rowP i b p = .tup [.str n, .int q, .bl t, k] ∧ q = (if (p : Int) < i then (p : Int) else if (p : Int) < i + 4 * b then i + ((p : Int) - i) / 4 else i + b + p - i - 4 * b) := by
  by_cases h1 : p < i
  · refine ⟨_, _, _, _, nameA hs h1 (by omega), posA hs (by omega) h1, telA hs h1, blkA hs h1, by rw [rowP, if_pos h1]; rfl, by rw [if_pos (by omega)]⟩
  · by_cases h2 : p < i + 4 * b
    · obtain ⟨k, j, hj, e⟩ : ∃ k j, j < 4 ∧ p = i + 4 * k + j := ⟨(p - i) / 4, (p - i) % 4, by omega, by omega⟩
      subst e
      have hk : k < b := by omega
      refine ⟨_, _, _, _, nameB hs hk (by omega) hj, posB hs (by omega) hk hj, telB hs hk hj, blkB hs hk hj, ?_, by rw [if_neg (by omega), if_pos (by omega)]; omega⟩
      rw [rowP, if_neg h1, if_pos h2, show (i + 4 * k + j - i) / 4 = k by omega, show (i + 4 * k + j - i) % 4 = j by omega]
      rfl
    · obtain ⟨k, e⟩ : ∃ k, p = i + 4 * b + k := ⟨p - i - 4 * b, by omega⟩
      subst e
      refine ⟨_, _, _, _, nameC hs (by omega), posC hs (by omega), telC hs, blkC hs, ?_, by rw [if_neg (by omega), if_neg (by omega)]; omega⟩
      rw [rowP, if_neg h1, if_neg h2, show i + 4 * b + k - i - 4 * b = k by omega]
      rfl
end
end LW
set_option Elab.async false
set_option maxRecDepth 100000
set_option maxHeartbeats 4000000
set_option linter.all false
set_option autoImplicit false
namespace LW
open PySem L2 VM
/-! ### plans -/
def bc : D → Bool
  | .tup [a, .int j, c] => ifz 256 a && (ifz 2 (.int j) && ifz (1 + j) c)
  | _ => false
def jr : D → Bool
  | .tup ds => ds.all (ifz 1000000)
  | _ => false
section
variable {s : Sto} (hs : Low s)
include hs
theorem bc_ap {d : D} (hp : plv d = true) (h2 : ∀ ds, d = .tup ds → ds.all plv = true) : m_is_block_cell s [d] = some (.ok (.bl (bc d)) s) := by
  have z := fun (d : D) (lim : Int) (h : plv d = true) => ifz_ap hs (d := d) (lim := lim) h
  cases d <;> (try (simp [plv] at hp; done))
  case tup ds =>
    have h3 := h2 ds rfl
    match ds, h3 with
    | [], _ => simp [m_is_block_cell, VM.run, g_is_block_cell, startD, bc, finB hs]
    | [a], _ => simp [m_is_block_cell, VM.run, g_is_block_cell, startD, bc, finB hs]
    | [a, b], _ => simp [m_is_block_cell, VM.run, g_is_block_cell, startD, bc, finB hs]
    | a :: b :: c :: e :: ds, _ =>
      have : ¬ ((ds.length : Int) + 1 + 1 + 1 + 1 = 3) := by omega
      simp [m_is_block_cell, VM.run, g_is_block_cell, startD, bc, finB hs, this]
    | [a, b, c], h3 =>
      simp at h3
      obtain ⟨p1, p2, p3⟩ := h3
      cases e1 : ifz 256 a with
      | false =>
        have : bc (.tup [a, b, c]) = false := by unfold bc; split <;> simp_all
        simp [m_is_block_cell, VM.run, g_is_block_cell, startD, z _ _ p1, e1, this, finB hs]
      | true =>
        cases e2 : ifz 2 b with
        | false =>
          have : bc (.tup [a, b, c]) = false := by unfold bc; split <;> simp_all
          simp [m_is_block_cell, VM.run, g_is_block_cell, startD, z _ _ p1, z _ _ p2, e1, e2, this, finB hs]
        | true =>
          cases b <;> (try (cases e2; done))
          case int j =>
            simp [m_is_block_cell, VM.run, g_is_block_cell, startD, z _ _ p1, z _ _ p2, z _ _ p3, e1, e2, bc, finB hs]
  all_goals simp [m_is_block_cell, VM.run, g_is_block_cell, startD, bc, finB hs]
end
end LW
set_option Elab.async false
set_option maxRecDepth 100000
set_option maxHeartbeats 4000000
set_option linter.all false
set_option autoImplicit false
namespace LW
open PySem L2 VM
section
variable {s : Sto} (hs : Low s)
include hs
theorem jr_nt {d : D} (hp : plv d = true) (h : ∀ ds, d ≠ .tup ds) : m_is_joined_row s [d] = some (.ok (.bl false) s) := by
  cases d <;> (try (simp [plv] at hp; done)) <;> (try (exact absurd rfl (h _)))
  all_goals simp [m_is_joined_row, VM.run, g_is_joined_row, startD, finB hs]
theorem jr_all {ds : List D} (hp : ds.all plv = true) : ∃ ys, allD s (.lst ys) = some (.bl (ds.all (ifz 1000000))) ∧ ∀ ρ : Rho, ρ.length = 3 → lcL (gNm 1) (VM.ret true) (fCall 2 m_is_from_zero (fCons (fVar 1) (fCons (fOp (i2 powI) (fC (.int 10)) (fC (.int 6))) (fNil)))) none ρ ds s = some (ys, s) := by
  refine ⟨ds.map fun d => .bl (ifz 1000000 d), allD_map _ _, fun ρ hρ => ?_⟩
  have hp6 : powI 10 6 = some (.int 1000000) := by unfold powI; rw [if_pos (shOk_lit 10 6 (by decide) (by decide))]; rfl
  refine lcL_map (F := fun d => .bl (ifz 1000000 d)) fun d hd => ⟨_, rfl, rfl, ?_⟩
  have z := ifz_ap hs (d := d) (lim := 1000000) (List.all_eq_true.mp hp d hd)
  simp [hρ, hp6, z]
theorem jr_no {ds : List D} (hp : ds.all plv = true) (hl : ds.length ≤ 1000) (h : ds.all (ifz 1000000) = false) : m_is_joined_row s [.tup ds] = some (.ok (.bl false) s) := by
  have l1 : ds.length ≤ LIM := le_LIM (by omega)
  obtain ⟨ys, a0, a1⟩ := jr_all hs hp
  simp [m_is_joined_row, VM.run, g_is_joined_row, startD, fLc_ap, l1, a1, a0, h, finB hs]
theorem jr_ap {ns : List Int} (h : ∀ n ∈ ns, 0 ≤ n ∧ n < 1000000) (hl : ns.length ≤ 1000) : m_is_joined_row s [.tup (ns.map .int)] = some (.ok (.bl (incr ns)) s) := by
  have l1 : ns.length ≤ LIM := le_LIM (by omega)
  obtain ⟨ys, a0, a1⟩ := jr_all hs (ds := ns.map .int) (by simp [plv])
  have a2 : (ns.map D.int).all (ifz 1000000) = true := by
    rw [List.all_map, List.all_eq_true]
    intro n hn
    have := h n hn
    simp [ifz, this]
  rw [a2] at a0
  have s1 : smallI (ns.length : Int) = true := smallI_nat l1
  have l2 : ((ns.length : Int) - 1).toNat ≤ LIM := le_LIM (by omega)
  simp [m_is_joined_row, VM.run, g_is_joined_row, startD, fLc_ap, l1, a1, a0, a2, s1, l2]
  rw [lcL_rng (F := fun k => .bl (decide (ns.getD k 0 < ns.getD (k + 1) 0)))]
  rotate_left
  · intro k hk
    refine ⟨_, rfl, rfl, ?_⟩
    have e1 : (1 : Int) + (k : Int) = ((k + 1 : Nat) : Int) := by omega
    have e2 : (1 : Int) + (k : Int) - 1 = (k : Int) := by omega
    simp only [e1]
    simp [e2, atI_nat', get_int (ns := ns) (k := k) (by omega)]
    rw [show ((k : Int) + 1) = ((k + 1 : Nat) : Int) by omega, atI_nat', get_int (by omega)]
    simp
  have l3 : ns.length ≤ LIM + 1 := Nat.le_succ_of_le l1
  have q := incr_range ns
  simp at q
  simp [l3, q, finB hs]
end
end LW
set_option Elab.async false
set_option maxRecDepth 100000
set_option maxHeartbeats 4000000
set_option linter.all false
set_option autoImplicit false
namespace LW
open PySem L2 VM
def planD (cells joins : List D) : D := .ins 21 [5, 6] [.tup cells, .tup joins]
def flat (d : D) : Bool := plv d && (match d with
  | .tup ds => ds.all plv
  | _ => true)
def cellOk : D → Bool
  | .non => true
  | d => bc d
/-- what is_joined_row says -/
def JR (d : D) (b : Bool) : Prop := ∀ s : Sto, Low s → m_is_joined_row s [d] = some (.ok (.bl b) s)
theorem bc_flat {s : Sto} (hs : Low s) {d : D} (h : flat d = true) : m_is_block_cell s [d] = some (.ok (.bl (bc d)) s) := by
  unfold flat at h
  rw [Bool.and_eq_true] at h
  refine bc_ap hs h.1 fun ds e => ?_
  subst e
  exact h.2
theorem isNone_cell {d : D} (h : isNone d = true) : d = .non := by
  cases d <;> first | rfl | cases h
theorem cell_step {d : D} (h : cellOk d = true) (hn : isNone d = false) : bc d = true := by
  cases d <;> first | exact h | cases hn
section
variable {s : Sto} (hs : Low s) {cells joins : List D} {c d : D}
include hs
theorem planinit_ok (hc : ∀ d ∈ cells, flat d = true ∧ cellOk d = true) (hj : ∀ d ∈ joins, JR d true) (lc : cells.length ≤ 1000) (lj : joins.length ≤ 1000) (wc : cells.all (low 0) = true) (wj : joins.all (low 0) = true) :
    m_Plan_init (s ++ [.ins 21 [] []]) [.own s.length, .tup cells, .tup joins] = some (.ok .non (s ++ [.ins 21 [5, 6] [.tup cells, .tup joins]])) := by
  have h0 : Low (s ++ [.ins 21 [] []]) := hs.snoc rfl
  have ll : ∀ n (xs : List D), xs.all (low 0) = true → xs.all (low n) = true := fun n xs h => List.all_eq_true.mpr fun x hx => frD_low n (List.all_eq_true.mp h x hx)
  have ff : fin false (s.length + 1) .non (s ++ [.ins 21 [5, 6] [.tup cells, .tup joins]]) = some (.ok .non (s ++ [.ins 21 [5, 6] [.tup cells, .tup joins]])) := by
    rw [show s.length + 1 = (s ++ [SO.ins 21 [5, 6] [.tup cells, .tup joins]]).length by simp]
    refine fin_low (hs.snoc ?_) rfl
    simp [lowS, lows_all, low, lows, ll _ _ wc, ll _ _ wj]
  have s1 : smallI (cells.length : Int) = true := smallI_nat (le_LIM (by omega))
  have s2 : smallI (joins.length : Int) = true := smallI_nat (le_LIM (by omega))
  simp [m_Plan_init, VM.run, g_Plan_init, startD, forL_cons, forL_nil, s1]
  generalize hX : forL _ _ _ _ _ _ = X
  obtain ⟨ρ', s', rfl, x, rfl, rfl⟩ : ∃ ρ' s', X = some (.nx ρ' s') ∧ ∃ x, ρ' = [some (.own s.length), some (.tup cells), some (.tup joins), some (.str ("join" : Str)), some (.tup joins), x] ∧ s' = s ++ [.ins 21 [] []] := by
    subst hX
    refine forL_rngP (P := fun n ρ' s' => ∃ x, ρ' = [some (.own s.length), some (.tup cells), some (.tup joins), some (.str ("join" : Str)), some (.tup joins), x] ∧ s' = s ++ [.ins 21 [] []]) ⟨none, rfl, rfl⟩ ?_
    rintro k hk _ _ ⟨x, rfl, rfl⟩
    refine ⟨_, rfl, ?_⟩
    obtain ⟨a1, a2⟩ := hc _ (List.getElem_mem hk)
    cases hn : isNone cells[k] with
    | true => simp [atI_nat', List.getElem?_eq_getElem hk, hn]
    | false =>
      have a3 := cell_step a2 hn
      simp [atI_nat', List.getElem?_eq_getElem hk, hn, bc_flat h0 a1, a3]
  simp [s2]
  generalize hX : forL _ _ _ _ _ _ = X
  obtain ⟨ρ', s', rfl, x, rfl, rfl⟩ : ∃ ρ' s', X = some (.nx ρ' s') ∧ ∃ x, ρ' = [some (.own s.length), some (.tup cells), some (.tup joins), some (.str ("join" : Str)), some (.tup joins), x] ∧ s' = s ++ [.ins 21 [] []] := by
    subst hX
    refine forL_rngP (P := fun n ρ' s' => ∃ x, ρ' = [some (.own s.length), some (.tup cells), some (.tup joins), some (.str ("join" : Str)), some (.tup joins), x] ∧ s' = s ++ [.ins 21 [] []]) ⟨_, rfl, rfl⟩ ?_
    rintro k hk _ _ ⟨x, rfl, rfl⟩
    refine ⟨_, rfl, ?_⟩
    have a1 := hj _ (List.getElem_mem hk) _ h0
    simp [atI_nat', List.getElem?_eq_getElem hk, a1]
  simp [setF_own, putN_cons, putN_nil, ff]
theorem plan_ok (hc : ∀ d ∈ cells, flat d = true ∧ cellOk d = true) (hj : ∀ d ∈ joins, JR d true) (lc : cells.length ≤ 1000) (lj : joins.length ≤ 1000) (wc : cells.all (low 0) = true) (wj : joins.all (low 0) = true) :
    makeD false 21 m_Plan_init s [.tup cells, .tup joins] = some (.ok (planD cells joins) s) := by
  have ll : ∀ n (xs : List D), xs.all (low 0) = true → xs.all (low n) = true := fun n xs h => List.all_eq_true.mpr fun x hx => frD_low n (List.all_eq_true.mp h x hx)
  unfold makeD
  rw [planinit_ok hs hc hj lc lj wc wj]
  refine fin_frz hs ?_
  simp [lowS, lows_all, low, lows, ll _ _ wc, ll _ _ wj]
theorem plan_no1 (hp : plv c = true) (h : ∀ ds, c ≠ .tup ds) : makeD false 21 m_Plan_init s [c, d] = some (.ex ⟨11, .tup [.str ("cell" : Str), .non]⟩ s) := by
  have h0 : Low (s ++ [.ins 21 [] []]) := hs.snoc rfl
  have ff := finX_low (e := ⟨11, .tup [.str ("cell" : Str), .non]⟩) h0 rfl
  have fg := finX_app (t := [.ins 21 [] []]) (e := ⟨11, .tup [.str ("cell" : Str), .non]⟩) hs rfl
  simp only [List.length_append, List.length_singleton] at ff
  cases c <;> (try (simp [plv] at hp; done)) <;> (try (exact absurd rfl (h _)))
  all_goals simp [makeD, m_Plan_init, VM.run, g_Plan_init, startD, forL_cons, ff, fg]
theorem plan_no2 (hp : plv d = true) (h : ∀ ds, d ≠ .tup ds) : makeD false 21 m_Plan_init s [.tup cells, d] = some (.ex ⟨11, .tup [.str ("join" : Str), .non]⟩ s) := by
  have h0 : Low (s ++ [.ins 21 [] []]) := hs.snoc rfl
  have ff := finX_low (e := ⟨11, .tup [.str ("join" : Str), .non]⟩) h0 rfl
  have fg := finX_app (t := [.ins 21 [] []]) (e := ⟨11, .tup [.str ("join" : Str), .non]⟩) hs rfl
  simp only [List.length_append, List.length_singleton] at ff
  cases d <;> (try (simp [plv] at hp; done)) <;> (try (exact absurd rfl (h _)))
  all_goals simp [makeD, m_Plan_init, VM.run, g_Plan_init, startD, forL_cons, ff, fg]
theorem plan_no3 (hc : ∀ d ∈ cells, flat d = true ∧ cellOk d = true) (lc : cells.length + 1 ≤ 1000) (h1 : flat c = true) (h2 : isNone c = false) (h3 : bc c = false) :
    makeD false 21 m_Plan_init s [.tup (cells ++ [c]), .tup joins] = some (.ex ⟨11, .tup [.str ("cell" : Str), .int cells.length]⟩ s) := by
  have h0 : Low (s ++ [.ins 21 [] []]) := hs.snoc rfl
  have ff := finX_low (e := ⟨11, .tup [.str ("cell" : Str), .int cells.length]⟩) h0 rfl
  have fg := finX_app (t := [.ins 21 [] []]) (e := ⟨11, .tup [.str ("cell" : Str), .int cells.length]⟩) hs rfl
  simp only [List.length_append, List.length_singleton] at ff
  have s1 : smallI ((cells.length : Int) + 1) = true := smallI_nat (n := cells.length + 1) (le_LIM (by omega))
  simp [makeD, m_Plan_init, VM.run, g_Plan_init, startD, forL_cons, forL_nil, s1]
  generalize hX : forL _ _ _ _ _ _ = X
  obtain ⟨e, ρ', s', rfl, rfl, rfl⟩ : ∃ e ρ' s', X = some (.ex e ρ' s') ∧ e = ⟨11, .tup [.str ("cell" : Str), .int cells.length]⟩ ∧ s' = s ++ [.ins 21 [] []] := by
    subst hX
    refine forL_rngE (m := cells.length) (n := cells.length + 1) (Q := fun e ρ' s' => e = ⟨11, .tup [.str ("cell" : Str), .int cells.length]⟩ ∧ s' = s ++ [.ins 21 [] []]) (P := fun n ρ' s' => ∃ x, ρ' = [some (.own s.length), some (.tup (cells ++ [c])), some (.tup joins), some (.str ("join" : Str)), some (.tup joins), x] ∧ s' = s ++ [.ins 21 [] []]) (by omega) ⟨none, rfl, rfl⟩ ?_ ?_
    · rintro k hk _ _ ⟨x, rfl, rfl⟩
      refine ⟨_, rfl, ?_⟩
      obtain ⟨a1, a2⟩ := hc _ (List.getElem_mem hk)
      have g : (cells ++ [c])[k]? = some cells[k] := by rw [List.getElem?_append_left hk, List.getElem?_eq_getElem hk]
      cases hn : isNone cells[k] with
      | true => simp [atI_nat', g, hn]
      | false =>
        have a3 := cell_step a2 hn
        simp [atI_nat', g, hn, bc_flat h0 a1, a3]
    · rintro _ _ ⟨x, rfl, rfl⟩
      refine ⟨_, rfl, ?_⟩
      simp [atI_nat', h2, bc_flat h0 h1, h3]
  simp [ff, fg]
theorem plan_no4 (hc : ∀ d ∈ cells, flat d = true ∧ cellOk d = true) (hj : ∀ d ∈ joins, JR d true) (lc : cells.length ≤ 1000) (lj : joins.length + 1 ≤ 1000) (h1 : JR c false) :
    makeD false 21 m_Plan_init s [.tup cells, .tup (joins ++ [c])] = some (.ex ⟨11, .tup [.str ("join" : Str), .int joins.length]⟩ s) := by
  have h0 : Low (s ++ [.ins 21 [] []]) := hs.snoc rfl
  have ff := finX_low (e := ⟨11, .tup [.str ("join" : Str), .int joins.length]⟩) h0 rfl
  have fg := finX_app (t := [.ins 21 [] []]) (e := ⟨11, .tup [.str ("join" : Str), .int joins.length]⟩) hs rfl
  simp only [List.length_append, List.length_singleton] at ff
  have s1 : smallI (cells.length : Int) = true := smallI_nat (le_LIM (by omega))
  have s2 : smallI ((joins.length : Int) + 1) = true := smallI_nat (n := joins.length + 1) (le_LIM (by omega))
  simp [makeD, m_Plan_init, VM.run, g_Plan_init, startD, forL_cons, forL_nil, s1]
  generalize hX : forL _ _ _ _ _ _ = X
  obtain ⟨ρ', s', rfl, x, rfl, rfl⟩ : ∃ ρ' s', X = some (.nx ρ' s') ∧ ∃ x, ρ' = [some (.own s.length), some (.tup cells), some (.tup (joins ++ [c])), some (.str ("join" : Str)), some (.tup (joins ++ [c])), x] ∧ s' = s ++ [.ins 21 [] []] := by
    subst hX
    refine forL_rngP (P := fun n ρ' s' => ∃ x, ρ' = [some (.own s.length), some (.tup cells), some (.tup (joins ++ [c])), some (.str ("join" : Str)), some (.tup (joins ++ [c])), x] ∧ s' = s ++ [.ins 21 [] []]) ⟨none, rfl, rfl⟩ ?_
    rintro k hk _ _ ⟨x, rfl, rfl⟩
    refine ⟨_, rfl, ?_⟩
    obtain ⟨a1, a2⟩ := hc _ (List.getElem_mem hk)
    cases hn : isNone cells[k] with
    | true => simp [atI_nat', List.getElem?_eq_getElem hk, hn]
    | false =>
      have a3 := cell_step a2 hn
      simp [atI_nat', List.getElem?_eq_getElem hk, hn, bc_flat h0 a1, a3]
  simp [s2]
  generalize hX : forL _ _ _ _ _ _ = X
  obtain ⟨e, ρ', s', rfl, rfl, rfl⟩ : ∃ e ρ' s', X = some (.ex e ρ' s') ∧ e = ⟨11, .tup [.str ("join" : Str), .int joins.length]⟩ ∧ s' = s ++ [.ins 21 [] []] := by
    subst hX
    refine forL_rngE (m := joins.length) (n := joins.length + 1) (Q := fun e ρ' s' => e = ⟨11, .tup [.str ("join" : Str), .int joins.length]⟩ ∧ s' = s ++ [.ins 21 [] []]) (P := fun n ρ' s' => ∃ x, ρ' = [some (.own s.length), some (.tup cells), some (.tup (joins ++ [c])), some (.str ("join" : Str)), some (.tup (joins ++ [c])), x] ∧ s' = s ++ [.ins 21 [] []]) (by omega) ⟨_, rfl, rfl⟩ ?_ ?_
    · rintro k hk _ _ ⟨x, rfl, rfl⟩
      refine ⟨_, rfl, ?_⟩
      have g : (joins ++ [c])[k]? = some joins[k] := by rw [List.getElem?_append_left hk, List.getElem?_eq_getElem hk]
      have a1 := hj _ (List.getElem_mem hk) _ h0
      simp [atI_nat', g, a1]
    · rintro _ _ ⟨x, rfl, rfl⟩
      refine ⟨_, rfl, ?_⟩
      simp [atI_nat', h1 _ h0]
  simp [ff, fg]
end
end LW
set_option Elab.async false
set_option maxRecDepth 100000
set_option maxHeartbeats 4000000
set_option linter.all false
set_option autoImplicit false
namespace LW
open PySem L2 VM
/-! ### plans by cells and rows -/
def cellT : Option (Int × Int × Int) → D
  | none => .non
  | some (a, b, c) => .tup [.int a, .int b, .int c]
def rowT (ns : List Int) : D := .tup (ns.map .int)
def planE (C : List (Option (Int × Int × Int))) (J : List (List Int)) : D := planD (C.map cellT) (J.map rowT)
def vCell : Option (Int × Int × Int) → Prop
  | none => True
  | some (a, b, c) => (0 ≤ a ∧ a < 256) ∧ (0 ≤ b ∧ b < 2) ∧ (0 ≤ c ∧ c < 1 + b)
structure VP (C : List (Option (Int × Int × Int))) (J : List (List Int)) : Prop where
  c : ∀ x ∈ C, vCell x
  j : ∀ ns ∈ J, (∀ n ∈ ns, 0 ≤ n ∧ n < 1000000) ∧ ns.Pairwise (· < ·) ∧ ns.length ≤ 1000
  lc : C.length ≤ 900
  lj : J.length ≤ 900
theorem cellT_ok {x : Option (Int × Int × Int)} (h : vCell x) : flat (cellT x) = true ∧ cellOk (cellT x) = true := by
  match x, h with
  | none, _ => exact ⟨rfl, rfl⟩
  | some (a, b, c), ⟨⟨h1, h2⟩, ⟨h3, h4⟩, ⟨h5, h6⟩⟩ => exact ⟨rfl, by simp [cellT, cellOk, bc, ifz, h1, h2, h3, h4, h5, h6]⟩
theorem jr_row {ns : List Int} (h : (∀ n ∈ ns, 0 ≤ n ∧ n < 1000000) ∧ ns.Pairwise (· < ·) ∧ ns.length ≤ 1000) : JR (rowT ns) true := fun s hs => by
  have := jr_ap hs h.1 h.2.2
  rw [incr_of h.2.1] at this
  exact this
theorem low_cellT (n : Nat) (x : Option (Int × Int × Int)) : low n (cellT x) = true := by
  match x with
  | none => rfl
  | some (a, b, c) => rfl
theorem low_rowT (n : Nat) (ns : List Int) : low n (rowT ns) = true := by
  show lows n (ns.map .int) = true
  exact lows_int n ns
theorem all_cellT (n : Nat) (C : List (Option (Int × Int × Int))) : (C.map cellT).all (low n) = true := by
  rw [List.all_map, List.all_eq_true]
  exact fun x _ => low_cellT n x
theorem all_rowT (n : Nat) (J : List (List Int)) : (J.map rowT).all (low n) = true := by
  rw [List.all_map, List.all_eq_true]
  exact fun x _ => low_rowT n x
theorem low_planE (n : Nat) (C : List (Option (Int × Int × Int))) (J : List (List Int)) : low n (planE C J) = true := by
  simp only [planE, planD, low, lows, lows_all, all_cellT, all_rowT, Bool.and_self]
theorem dat_cellT (x : Option (Int × Int × Int)) : datD 1 (cellT x) = true := by
  match x with
  | none => rfl
  | some (a, b, c) => rfl
theorem dat_rowT (x : List Int) : datD 1 (rowT x) = true := by
  rw [rowT, datD, List.all_map, List.all_eq_true]
  exact fun _ _ => rfl
theorem dat_cells (C : List (Option (Int × Int × Int))) : datD 2 (.tup (C.map cellT)) = true := by
  rw [datD, List.all_map, List.all_eq_true]
  exact fun x _ => dat_cellT x
theorem dat_rows (J : List (List Int)) : datD 2 (.tup (J.map rowT)) = true := by
  rw [datD, List.all_map, List.all_eq_true]
  exact fun x _ => dat_rowT x
section
variable {s : Sto} (hs : Low s) {C C' : List (Option (Int × Int × Int))} {J J' : List (List Int)} {i b o l : Int} {neg : Bool}
include hs
theorem plan_mk (v : VP C J) : makeD false 21 m_Plan_init s [.tup (C.map cellT), .tup (J.map rowT)] = some (.ok (planE C J) s) := by
  have hc : ∀ d ∈ C.map cellT, flat d = true ∧ cellOk d = true := fun d hd => by
    obtain ⟨x, hx, rfl⟩ := List.mem_map.mp hd
    exact cellT_ok (v.c x hx)
  have hj : ∀ d ∈ J.map rowT, JR d true := fun d hd => by
    obtain ⟨x, hx, rfl⟩ := List.mem_map.mp hd
    exact jr_row (v.j x hx)
  exact plan_ok hs hc hj (by rw [List.length_map]; have := v.lc; omega) (by rw [List.length_map]; have := v.lj; omega) (all_cellT 0 C) (all_rowT 0 J)
theorem planeq_ap : m_Plan_eq s [planE C J, planE C' J'] = some (.ok (.bl (eqv (.tup (C.map cellT)) (.tup (C'.map cellT)) && eqv (.tup (J.map rowT)) (.tup (J'.map rowT)))) s) := by
  have e1 := eqD_dat (s := s) (dat_cells C) (dat_cells C') (by decide) (by decide)
  have e2 := eqD_dat (s := s) (dat_rows J) (dat_rows J') (by decide) (by decide)
  cases h : eqv (.tup (C.map cellT)) (.tup (C'.map cellT)) <;> simp [m_Plan_eq, VM.run, g_Plan_eq, startD, planE, planD, getN_cons, e1, e2, h, finB hs]
theorem planeqI : eqI neg 21 m_Plan_eq s (planE C J) (planE C' J') = some (.bl ((eqv (.tup (C.map cellT)) (.tup (C'.map cellT)) && eqv (.tup (J.map rowT)) (.tup (J'.map rowT))) != neg), s) := by
  rw [eqI_ap]
  simp [planE, planD]
  have := planeq_ap hs (C := C) (J := J) (C' := C') (J' := J')
  simp [planE, planD] at this
  simp [this]
theorem planeqR : eqI true 21 m_Plan_eq s (planE C J) (planE C J) = some (.bl false, s) := by
  rw [planeqI hs, eqv_refl (dat_cells C), eqv_refl (dat_rows J)]
  rfl
theorem cityeq_ap {i' b' o' l' : Int} : m_City_eq s [cityD i b o l, cityD i' b' o' l'] = some (.ok (.bl (decide ([i, b, o, l] = [i', b', o', l']))) s) := by
  have e1 := eqD_dat (s := s) (x := .tup [.int i, .int b, .int o, .int l]) (y := .tup [.int i', .int b', .int o', .int l']) (m := 1) (n := 1) rfl rfl (by decide) (by decide)
  have e2 := eqv_ints (as := [i, b, o, l]) (bs := [i', b', o', l'])
  have n1 := numbers_ap hs (i := i) (b := b) (o := o) (l := l)
  have n2 := numbers_ap hs (i := i') (b := b') (o := o') (l := l')
  simp only [List.map_cons, List.map_nil] at e2
  rw [e2] at e1
  simp only [cityD] at n1 n2
  simp [m_City_eq, VM.run, g_City_eq, startD, cityD, n1, n2, e1, finB hs]
theorem cityeqI {i' b' o' l' : Int} : eqI neg 20 m_City_eq s (cityD i b o l) (cityD i' b' o' l') = some (.bl (decide ([i, b, o, l] = [i', b', o', l']) != neg), s) := by
  have := cityeq_ap hs (i := i) (b := b) (o := o) (l := l) (i' := i') (b' := b') (o' := o') (l' := l')
  rw [eqI_ap]
  simp only [cityD] at this
  simp only [cityD, insD_ins, this]
  simp
end
end LW
set_option Elab.async false
set_option maxRecDepth 100000
set_option maxHeartbeats 4000000
set_option linter.all false
set_option autoImplicit false
namespace LW
open PySem L2 VM
section
variable {s : Sto} (hs : Low s) {C C' : List (Option (Int × Int × Int))} {J J' : List (List Int)} {i b o l : Int} {neg : Bool} {n m : Nat}
include hs
theorem misfit_c (h : ¬ (C.length : Int) = b) : m_plan_misfit s [cityD i b o l, planE C J] = some (.ok (.tup [.str ("cells" : Str), .int C.length]) s) := by
  simp [m_plan_misfit, VM.run, g_plan_misfit, startD, planE, planD, cityD, h]
  exact fin_low hs rfl
theorem misfit_j (h : (C.length : Int) = b) (h2 : ¬ (J.length : Int) = l) : m_plan_misfit s [cityD i b o l, planE C J] = some (.ok (.tup [.str ("joins" : Str), .int J.length]) s) := by
  simp [m_plan_misfit, VM.run, g_plan_misfit, startD, planE, planD, cityD, h, h2, getN_cons]
  exact fin_low hs rfl
/-- the loop over a row of pins that fit -/
theorem misfit_none (h : (C.length : Int) = b) (h2 : (J.length : Int) = l) (hp : ∀ ns ∈ J, ∀ x ∈ ns, x < i + 4 * b + o) : m_plan_misfit s [cityD i b o l, planE C J] = some (.ok .non s) := by
  have pc := pinc_ap hs (i := i) (b := b) (o := o) (l := l)
  simp only [cityD] at pc
  simp [m_plan_misfit, VM.run, g_plan_misfit, startD, planE, planD, cityD, h, h2, getN_cons]
  generalize hX : forL _ _ _ _ _ _ = X
  obtain ⟨ρ', s', rfl, x, y, rfl, rfl⟩ : ∃ ρ' s', X = some (.nx ρ' s') ∧ ∃ x y, ρ' = [some (cityD i b o l), some (planE C J), x, y] ∧ s = s' := by
    subst hX
    refine forL_P (P := fun n ρ' s' => ∃ x y, ρ' = [some (cityD i b o l), some (planE C J), x, y] ∧ s = s') ⟨none, none, by simp [cityD, planE, planD], rfl⟩ ?_
    rintro k hk _ _ ⟨x, y, rfl, rfl⟩
    refine ⟨_, rfl, ?_⟩
    have hk' : k < J.length := by simpa using hk
    rw [List.getElem_map]
    have hr := hp _ (List.getElem_mem hk')
    generalize J[k] = ns at hr
    simp [rowT]
    generalize hX : forL _ _ _ _ _ _ = X
    obtain ⟨ρ', s', rfl, x, y, rfl, rfl⟩ : ∃ ρ' s'', X = some (.nx ρ' s'') ∧ ∃ x y, ρ' = [some (cityD i b o l), some (planE C J), x, y] ∧ s = s'' := by
      subst hX
      refine forL_P (P := fun n ρ' s'' => ∃ x y, ρ' = [some (cityD i b o l), some (planE C J), x, y] ∧ s = s'') ⟨_, _, rfl, rfl⟩ ?_
      rintro k hk _ _ ⟨x, y, rfl, rfl⟩
      refine ⟨_, rfl, ?_⟩
      have hk' : k < ns.length := by simpa using hk
      have h1 := hr _ (List.getElem_mem hk')
      rw [List.getElem_map]
      have h2 : ¬ (i + 4 * b + o ≤ ns[k]) := by omega
      simp [cityD, pc, h2]
    rw [nxP_nx]
    exact ⟨⟨_, _, rfl⟩, rfl⟩
  simp [finN hs]
theorem misfit_p {far : Int} (h : (C.length : Int) = b) (h2 : (J.length : Int) + 1 = l) (hp : ∀ ns ∈ J, ∀ x ∈ ns, x < i + 4 * b + o) (hf : i + 4 * b + o ≤ far) : m_plan_misfit s [cityD i b o l, planE C (J ++ [[far]])] = some (.ok (.tup [.str ("pin" : Str), .int far]) s) := by
  have pc := pinc_ap hs (i := i) (b := b) (o := o) (l := l)
  simp only [cityD] at pc
  have ff : fin false s.length (.tup [.str ("pin" : Str), .int far]) s = some (.ok (.tup [.str ("pin" : Str), .int far]) s) := fin_low hs rfl
  simp [m_plan_misfit, VM.run, g_plan_misfit, startD, planE, planD, cityD, h, h2, getN_cons]
  generalize hX : forL _ _ _ _ _ _ = X
  obtain ⟨d, s', rfl, rfl, rfl⟩ : ∃ d s', X = some (.rt d s') ∧ d = .tup [.str ("pin" : Str), .int far] ∧ s = s' := by
    subst hX
    refine forL_R (Q := fun d s' => d = .tup [.str ("pin" : Str), .int far] ∧ s = s') (P := fun n ρ' s' => ∃ x y, ρ' = [some (cityD i b o l), some (planE C (J ++ [[far]])), x, y] ∧ s = s') ⟨none, none, by simp [cityD, planE, planD], rfl⟩ ?_ ?_
    · rintro k hk _ _ ⟨x, y, rfl, rfl⟩
      refine ⟨_, rfl, ?_⟩
      have hk' : k < J.length := by simpa using hk
      rw [List.getElem_map]
      have hr := hp _ (List.getElem_mem hk')
      generalize J[k] = ns at hr
      simp [rowT]
      generalize hX : forL _ _ _ _ _ _ = X
      obtain ⟨ρ', s', rfl, x, y, rfl, rfl⟩ : ∃ ρ' s'', X = some (.nx ρ' s'') ∧ ∃ x y, ρ' = [some (cityD i b o l), some (planE C (J ++ [[far]])), x, y] ∧ s = s'' := by
        subst hX
        refine forL_P (P := fun n ρ' s'' => ∃ x y, ρ' = [some (cityD i b o l), some (planE C (J ++ [[far]])), x, y] ∧ s = s'') ⟨_, _, rfl, rfl⟩ ?_
        rintro k hk _ _ ⟨x, y, rfl, rfl⟩
        refine ⟨_, rfl, ?_⟩
        have hk' : k < ns.length := by simpa using hk
        have h1 := hr _ (List.getElem_mem hk')
        rw [List.getElem_map]
        have h2 : ¬ (i + 4 * b + o ≤ ns[k]) := by omega
        simp [cityD, pc, h2]
      rw [nxP_nx]
      exact ⟨⟨_, _, rfl⟩, rfl⟩
    · rintro _ _ ⟨x, y, rfl, rfl⟩
      refine ⟨_, rfl, ?_⟩
      simp [rowT, forL_cons, forL_nil, cityD, pc, hf]
  simp [ff]
theorem check_none (h : m_plan_misfit s [cityD i b o l, planE C J] = some (.ok .non s)) : m_check_plan s [cityD i b o l, planE C J] = some (.ok .non s) := by
  simp [m_check_plan, VM.run, g_check_plan, startD, h, finN hs]
theorem check_no {p : Str} {x : Int} (h : m_plan_misfit s [cityD i b o l, planE C J] = some (.ok (.tup [.str p, .int x]) s)) : m_check_plan s [cityD i b o l, planE C J] = some (.ex ⟨11, .tup [.str p, .int x]⟩ s) := by
  simp [m_check_plan, VM.run, g_check_plan, startD, h]
  exact finX_low hs rfl
/-! ### refused -/
section
variable {P a1 a2 a3 a4 q : D}
theorem refused0 (h0 : ixD s P (.int 0) = some a1) (h1 : ixD s P (.int 1) = some a2) (h2 : ixD s P (.int 2) = some a3) (h3 : ixD s P (.int 3) = some a4) (hm : makeD false 20 m_City_init s [a1, a2, a3, a4] = some (.ex ⟨10, q⟩ s)) (hq : low s.length q = true) :
    m__law_refused s [.int 0, P] = some (.ok (.tup [q]) s) := by
  simp [m__law_refused, VM.run, g__law_refused, startD, h0, h1, h2, h3, hm]
  exact fin_low hs (by simp [low, lows, hq])
theorem refused0_ok {x : D} (h0 : ixD s P (.int 0) = some a1) (h1 : ixD s P (.int 1) = some a2) (h2 : ixD s P (.int 2) = some a3) (h3 : ixD s P (.int 3) = some a4) (hm : makeD false 20 m_City_init s [a1, a2, a3, a4] = some (.ok x s)) :
    m__law_refused s [.int 0, P] = some (.ok .non s) := by
  simp [m__law_refused, VM.run, g__law_refused, startD, h0, h1, h2, h3, hm, finN hs]
theorem refused1 (hm : makeD false 21 m_Plan_init s [a1, a2] = some (.ex ⟨11, q⟩ s)) (hq : low s.length q = true) : m__law_refused s [.int 1, .lst [a1, a2]] = some (.ok (.tup [q]) s) := by
  simp [m__law_refused, VM.run, g__law_refused, startD, hm]
  exact fin_low hs (by simp [low, lows, hq])
theorem refused2 (hm : m_check_plan s [a1, a2] = some (.ex ⟨11, q⟩ s)) (hq : low s.length q = true) : m__law_refused s [.int 2, .lst [a1, a2]] = some (.ok (.tup [q]) s) := by
  simp [m__law_refused, VM.run, g__law_refused, startD, hm]
  exact fin_low hs (by simp [low, lows, hq])
theorem refused2_ok (hm : m_check_plan s [a1, a2] = some (.ok .non s)) : m__law_refused s [.int 2, .lst [a1, a2]] = some (.ok .non s) := by
  simp [m__law_refused, VM.run, g__law_refused, startD, hm, finN hs]
end
end
end LW
set_option Elab.async false
set_option maxRecDepth 100000
set_option maxHeartbeats 4000000
set_option linter.all false
set_option autoImplicit false
namespace LW
open PySem L2 VM
/-! ### what is told of a plan -/
def cbD (C : List (Option (Int × Int × Int))) : List D := ((List.range C.length).filter fun k => !isNone ((C.map cellT).getD k .non)).map fun k : Nat => .int k
theorem get_map {α : Type} {f : α → D} {xs : List α} {k : Nat} (h : k < xs.length) : (xs.map f)[k]? = some ((xs.map f).getD k .non) := by
  rw [List.getD_eq_getElem?_getD, List.getElem?_map, List.getElem?_eq_getElem h]
  rfl
/-- lane by lane, what is joined -/
def jtN (J : List (List Int)) : Nat → List D
  | 0 => []
  | n + 1 => jtN J n ++ (J.getD n []).map fun p => .tup [.int n, .int p]
def sumN (J : List (List Int)) : Nat → Nat
  | 0 => 0
  | n + 1 => sumN J n + (J.getD n []).length
theorem jtN_len (J : List (List Int)) : ∀ n, (jtN J n).length = sumN J n
  | 0 => rfl
  | n + 1 => by rw [jtN, sumN, List.length_append, jtN_len J n, List.length_map]
theorem sumN_le {J : List (List Int)} {m : Nat} (h : ∀ ns ∈ J, ns.length ≤ m) : ∀ n, n ≤ J.length → sumN J n ≤ n * m
  | 0, _ => Nat.zero_le _
  | n + 1, hn => by
    have h1 := sumN_le h n (by omega)
    have h2 : (J.getD n []).length ≤ m := by
      rw [List.getD_eq_getElem?_getD, List.getElem?_eq_getElem (by omega)]
      exact h _ (List.getElem_mem _)
    rw [sumN, Nat.succ_mul]
    omega
section
variable {s : Sto} (hs : Low s) {C C' : List (Option (Int × Int × Int))} {J J' : List (List Int)} {b l : Nat} {i o : Int} {m : Nat}
include hs
theorem cellblocks_ap (h : C.length ≤ 900) : m_cell_blocks s [planE C J] = some (.ok (.tup (cbD C)) s) := by
  have s1 : smallI (C.length : Int) = true := smallI_nat (le_LIM (by omega))
  have l1 : C.length ≤ LIM := le_LIM (by omega)
  have ff : fin false s.length (.tup (cbD C)) s = some (.ok (.tup (cbD C)) s) := fin_low hs (by simp [low, lows_all, cbD])
  simp [m_cell_blocks, VM.run, g_cell_blocks, startD, planE, planD, s1, l1, fLc_ap]
  rw [lcL_if (p := fun k => !isNone ((C.map cellT).getD k .non)) (F := fun k : Nat => .int k)]
  rotate_left
  · intro k hk
    have e1 := get_map (f := cellT) hk
    generalize (C.map cellT).getD k .non = v at e1 ⊢
    rw [List.getElem?_map] at e1
    exact ⟨_, rfl, by simp [atI_nat', e1], fun _ => by simp⟩
  simp only [cbD] at ff ⊢
  simpa using ff
theorem joints_ap (hj : J.length ≤ 900) (hm : ∀ ns ∈ J, ns.length ≤ m) (hb : J.length * m ≤ 10000) : m_joints_of s [planE C J] = some (.ok (.lst (jtN J J.length)) s) := by
  have s1 : smallI (J.length : Int) = true := smallI_nat (le_LIM (by omega))
  have ff : ∀ n, fin false s.length (.lst (jtN J n)) s = some (.ok (.lst (jtN J n)) s) := fun n => fin_low hs (by
    rw [low, lows_all]
    induction n with
    | zero => rfl
    | succ n ih => rw [jtN, List.all_append, ih]; simp [low, lows])
  simp [m_joints_of, VM.run, g_joints_of, startD, planE, planD, s1, fLc2_ap, getN_cons]
  generalize hX : clL _ _ _ _ _ _ _ _ = X
  obtain ⟨b', s', rfl, rfl, rfl⟩ : ∃ b' s', X = some (b', s') ∧ b' = jtN J J.length ∧ s = s' := by
    subst hX
    refine clL_rngP (P := fun n b' s' => b' = jtN J n ∧ s = s') ⟨rfl, rfl⟩ ?_
    rintro k hk _ _ ⟨rfl, rfl⟩
    refine ⟨_, rfl, rfl, ?_⟩
    have e1 : (J.map rowT)[k]? = some (.tup ((J.getD k []).map .int)) := by
      rw [List.getElem?_map, List.getD_eq_getElem?_getD, List.getElem?_eq_getElem hk]
      rfl
    have hlen := sumN_le hm k (by omega)
    have hl2 : (J.getD k []).length ≤ m := by
      rw [List.getD_eq_getElem?_getD, List.getElem?_eq_getElem hk]
      exact hm _ (List.getElem_mem _)
    have hb2 : k * m + m ≤ 10000 := by
      have : (k + 1) * m ≤ J.length * m := Nat.mul_le_mul_right _ hk
      rw [Nat.succ_mul] at this
      omega
    rw [jtN]
    generalize J.getD k [] = ns at *
    simp [cl1_ap, atI_nat', e1, rowT]
    generalize hX : clL _ _ _ _ _ _ _ _ = X
    obtain ⟨b', s', rfl, rfl, rfl⟩ : ∃ b' s', X = some (b', s') ∧ b' = jtN J k ++ (ns.take ns.length).map (fun p => D.tup [.int k, .int p]) ∧ s = s' := by
      subst hX
      have q := clL_P (gt := gNm 2) (ft := VM.ret true) (bd := lcB (fTup (fCons (fVar 1) (fCons (fVar 2) fNil)))) (ρ := [some (D.ins 21 [5, 6] [D.tup (List.map cellT C), D.tup (List.map rowT J)]), some (D.int (k : Int)), none]) (ds := ns.map D.int) (b := jtN J k) (s := s)
        (P := fun n b' s' => b' = jtN J k ++ (ns.take n).map (fun p => D.tup [.int k, .int p]) ∧ s = s') ⟨by simp, rfl⟩ (by
          rintro j hj _ _ ⟨rfl, rfl⟩
          refine ⟨_, rfl, rfl, ?_⟩
          have hj' : j < ns.length := by simpa using hj
          have hlt : (jtN J k).length + min j ns.length < LIM := Nat.lt_of_lt_of_le (m := 100000) (by rw [jtN_len]; omega) (le_LIM (by decide))
          rw [List.getElem_map]
          simp [lcB_ap, hlt]
          rw [List.take_succ, List.getElem?_map, List.getElem?_eq_getElem hj']
          rfl)
      simpa using q
    simp
  have e := ff J.length
  simpa using e
theorem bare_ap (hb : b ≤ 900) (hl : l ≤ 900) : m_bare_plan s [cityD i b o l] = some (.ok (planE (List.replicate b none) (List.replicate l [])) s) := by
  have v : VP (List.replicate b none) (List.replicate l []) := ⟨fun x hx => by rw [List.eq_of_mem_replicate hx]; exact True.intro, fun x hx => by rw [List.eq_of_mem_replicate hx]; exact ⟨fun _ h => (nomatch h), List.Pairwise.nil, Nat.zero_le _⟩, by simpa using hb, by simpa using hl⟩
  have e := plan_mk hs v
  have c1 : (List.replicate b (none : Option (Int × Int × Int))).map cellT = (List.replicate b [D.non]).flatten := by
    rw [List.map_replicate]
    simp [cellT]
  have c2 : (List.replicate l ([] : List Int)).map rowT = (List.replicate l [D.tup []]).flatten := by
    rw [List.map_replicate]
    simp [rowT]
  have c3 : -1000 ≤ (b : Int) ∧ (b : Int) ≤ 1000 := by omega
  have c4 : -1000 ≤ (l : Int) ∧ (l : Int) ≤ 1000 := by omega
  have ff := fin_low (kp := false) hs (low_planE s.length (List.replicate b none) (List.replicate l []))
  rw [c1, c2] at e
  simp at e
  simp [m_bare_plan, VM.run, g_bare_plan, startD, cityD, getN_cons, c3, c4, e, ff]
end
end LW
set_option Elab.async false
set_option maxRecDepth 100000
set_option maxHeartbeats 4000000
set_option linter.all false
set_option autoImplicit false
namespace LW
open PySem L2 VM
/-- all pins that are joined, lane by lane -/
def jpN (J : List (List Int)) : Nat → List Int
  | 0 => []
  | n + 1 => jpN J n ++ J.getD n []
theorem jpN_len (J : List (List Int)) : ∀ n, (jpN J n).length = sumN J n
  | 0 => rfl
  | n + 1 => by rw [jpN, sumN, List.length_append, jpN_len J n]
section
variable {s : Sto} (hs : Low s) {C C' : List (Option (Int × Int × Int))} {J J' : List (List Int)} {b l : Nat} {i o : Int} {m : Nat}
include hs
theorem joined_ap (hj : J.length ≤ 900) (hm : sumN J J.length < 64) : m_joined_pins s [planE C J] = some (.ok (.tup ((sortI (dedI (jpN J J.length))).map .int)) s) := by
  have ff : ∀ l : List Int, fin false s.length (.tup (l.map .int)) s = some (.ok (.tup (l.map .int)) s) := fun l => fin_low hs (lows_int _ _)
  have mono : ∀ n, n ≤ J.length → sumN J n ≤ sumN J J.length := fun n hn => by
    obtain ⟨k, e⟩ : ∃ k, J.length = n + k := ⟨J.length - n, by omega⟩
    rw [e]
    clear e
    induction k with
    | zero => exact Nat.le_refl _
    | succ k ih => exact Nat.le_trans ih (by rw [← Nat.add_assoc, sumN]; exact Nat.le_add_right _ _)
  simp [m_joined_pins, VM.run, g_joined_pins, startD, planE, planD, fDc2_ap, getN_cons]
  generalize hX : clL _ _ _ _ _ _ _ _ = X
  obtain ⟨b', s', rfl, L, e1, e2, e3, e4, e5, rfl⟩ : ∃ b' s', X = some (b', s') ∧ ∃ L : List Int, b'.1 = L.map .int ∧ L.Nodup ∧ (∀ x, x ∈ L ↔ x ∈ jpN J J.length) ∧ L.length ≤ sumN J J.length ∧ True ∧ s = s' := by
    subst hX
    have q := clL_P (gt := gNm 1) (ft := VM.ret true) (bd := cl1 (fSrc (fVar 1)) (gNm 2) (VM.ret true) (dcB (fVar 2) (fC (D.bl true))) [2]) (ρ := [some (D.ins 21 [5, 6] [D.tup (C.map cellT), D.tup (J.map rowT)]), none, none]) (ds := J.map rowT) (b := ([], [])) (s := s)
      (P := fun n b' s' => ∃ L : List Int, b'.1 = L.map .int ∧ L.Nodup ∧ (∀ x, x ∈ L ↔ x ∈ jpN J n) ∧ L.length ≤ sumN J n ∧ True ∧ s = s') ⟨[], rfl, List.nodup_nil, fun _ => Iff.rfl, Nat.le_refl _, True.intro, rfl⟩ (by
        rintro k hk ⟨ks, vs⟩ _ ⟨L, rfl, e2, e3, e4, _, rfl⟩
        have hk' : k < J.length := by simpa using hk
        refine ⟨_, rfl, rfl, ?_⟩
        have hmk := mono (k + 1) hk'
        rw [sumN] at hmk
        have e6 : J.getD k [] = J[k] := by rw [List.getD_eq_getElem?_getD, List.getElem?_eq_getElem hk']; rfl
        rw [e6] at hmk
        rw [List.getElem_map]
        have hp : ∀ x, (x ∈ jpN J (k + 1)) ↔ x ∈ jpN J k ∨ x ∈ J[k] := fun x => by rw [jpN, List.mem_append, e6]
        have hsum : sumN J (k + 1) = sumN J k + J[k].length := by rw [sumN, e6]
        simp only [hp, hsum]
        generalize J[k] = ns at hmk
        simp [cl1_ap, rowT]
        have q2 := clL_P (gt := gNm 2) (ft := VM.ret true) (bd := dcB (fVar 2) (fC (D.bl true))) (ρ := [some (D.ins 21 [5, 6] [D.tup (C.map cellT), D.tup (J.map rowT)]), some (D.tup (ns.map .int)), none]) (ds := ns.map D.int) (b := (L.map .int, vs)) (s := s)
          (P := fun n b' s' => ∃ L : List Int, b'.1 = L.map .int ∧ L.Nodup ∧ (∀ x, x ∈ L ↔ x ∈ jpN J k ∨ x ∈ ns.take n) ∧ L.length ≤ sumN J k + n ∧ True ∧ s = s') ⟨L, rfl, e2, fun x => by rw [e3]; simp, e4, True.intro, rfl⟩ (by
            rintro j hj ⟨ks, vs⟩ _ ⟨L, rfl, e2, e3, e4, _, rfl⟩
            have hj' : j < ns.length := by simpa using hj
            refine ⟨_, rfl, rfl, ?_⟩
            rw [List.getElem_map]
            have hlt : L.length < LIM := Nat.lt_of_lt_of_le (m := 100) (by omega) (le_LIM (by decide))
            simp [dcB_ap, hlt, -List.map_cons]
            refine ⟨addK ns[j] L, kput_ints, addK_nodup e2, fun x => ?_, Nat.le_trans addK_len (by omega)⟩
            rw [mem_addK, e3, List.take_succ, List.getElem?_eq_getElem hj', List.mem_append]
            simp [or_assoc])
        obtain ⟨b', s', q2, L', r1, r2, r3, r4, _, rfl⟩ := q2
        simp only [q2, bdP_some]
        rw [List.length_map] at r3 r4
        rw [List.take_length] at r3
        exact ⟨L', r1, r2, r3, r4, True.intro⟩)
    simpa using q
  obtain ⟨b1, b2⟩ := b'
  have e1 : b1 = L.map .int := e1
  subst e1
  have h64 : L.length < 64 := by omega
  simp [srt_dct, h64]
  have := ff (sortI L)
  rw [sortI_eq e2 (dedI_nodup _) (b := dedI (jpN J J.length)) fun x => by rw [e3, mem_dedI]] at this
  rw [sortI_eq e2 (dedI_nodup _) (b := dedI (jpN J J.length)) fun x => by rw [e3, mem_dedI]]
  exact this
/-! ### changed plans -/
section
variable {s1 : Sto} {ks vs ks2 vs2 : List D} {d1 d2 : D}
theorem changed_ap (h1 : dctOf s d1 = some (ks, vs)) (h2 : dctOf s d2 = some (ks2, vs2)) (hc : C.length ≤ 900) (hj : J.length ≤ 900) (v : VP C' J')
    (ec : C'.map cellT = (List.range C.length).map fun k : Nat => (lookD (.inl (k : Int)) ks vs).getD ((C.map cellT).getD k .non)) (ej : J'.map rowT = (List.range J.length).map fun k : Nat => (lookD (.inl (k : Int)) ks2 vs2).getD ((J.map rowT).getD k .non)) :
    m_changed_plan s [planE C J, d1, d2] = some (.ok (planE C' J') s) := by
  have z1 : smallI (C.length : Int) = true := smallI_nat (le_LIM (by omega))
  have z2 : smallI (J.length : Int) = true := smallI_nat (le_LIM (by omega))
  have l1 : C.length ≤ LIM := le_LIM (by omega)
  have l2 : J.length ≤ LIM := le_LIM (by omega)
  have pm := plan_mk hs v
  have ff := fin_low (kp := false) hs (low_planE s.length C' J')
  simp [m_changed_plan, VM.run, g_changed_plan, startD, planE, planD, fLc_ap, getN_cons, z1, l1]
  rw [lcL_rng (F := fun k : Nat => (lookD (.inl (k : Int)) ks vs).getD ((C.map cellT).getD k .non))]
  rotate_left
  · intro k hk
    refine ⟨_, rfl, rfl, ?_⟩
    have e1 := get_map (f := cellT) hk
    generalize (C.map cellT).getD k .non = v at e1 ⊢
    rw [List.getElem?_map] at e1
    cases e : lookD (.inl (k : Int)) ks vs with
    | none => simp [inD_ap, h1, e, atI_nat', e1]
    | some x => simp [inD_ap, getD_ap, h1, e]
  rw [← ec]
  simp [z2, l2, fLc_ap, getN_cons]
  rw [lcL_rng (F := fun k : Nat => (lookD (.inl (k : Int)) ks2 vs2).getD ((J.map rowT).getD k .non))]
  rotate_left
  · intro k hk
    refine ⟨_, rfl, rfl, ?_⟩
    have e1 := get_map (f := rowT) hk
    generalize (J.map rowT).getD k .non = v at e1 ⊢
    rw [List.getElem?_map] at e1
    cases e : lookD (.inl (k : Int)) ks2 vs2 with
    | none => simp [inD_ap, h2, e, atI_nat', e1]
    | some x => simp [inD_ap, getD_ap, h2, e]
  rw [← ej]
  simp only [planE] at ff
  simp [pm, planE, ff]
  rfl
end
end
end LW
set_option Elab.async false
set_option maxRecDepth 100000
set_option maxHeartbeats 4000000
set_option linter.all false
set_option autoImplicit false
namespace LW
open PySem L2 VM
/-! ### drawn plans -/
theorem two {x : Int} (h0 : 0 ≤ x) (h1 : x < 2) : x = 0 ∨ x = 1 := by omega
theorem dr2 (τ : Tau) : dr τ 2 = 0 ∨ dr τ 2 = 1 := two (dr_lo τ 2) (dr_hi τ (by decide))
structure GJ (N : Int) (ns : List Int) : Prop where
  lo : ∀ x ∈ ns, 0 ≤ x ∧ x < max 1 N
  st : ns.Pairwise (· < ·)
  len : ns.length ≤ 3
theorem dedI_le {ns : List Int} : (sortI (dedI ns)).length ≤ ns.length := by rw [(sortI_perm _).length_eq]; exact dedI_len ns
theorem row_good {N : Int} {ns : List Int} (h : ∀ x ∈ ns, 0 ≤ x ∧ x < max 1 N) (hl : ns.length ≤ 3) : GJ N (sortI (dedI ns)) :=
  ⟨fun x hx => h x ((mem_dedI ns x).mp (mem_sortI.mp hx)), sortI_strict (dedI_nodup ns), Nat.le_trans dedI_le hl⟩
abbrev Cells := List (Option (Int × Int × Int))
abbrev Rows := List (List Int)
def PCel (i b o l n : Nat) (ρ : Rho) (s : Sto) : Prop := ∃ (C : Cells) (τ : Tau) (x y : Option D), C.length = n ∧ (∀ c ∈ C, vCell c) ∧ ρ = [some (.own 0), some (cityD i b o l), some (.own 1), x, y, none, none] ∧ s = [tp τ, .lst (C.map cellT)]
def PRow (i b o l : Nat) (C : Cells) (n : Nat) (ρ : Rho) (s : Sto) : Prop := ∃ (J : Rows) (τ : Tau) (x y z : Option D), J.length = n ∧ (∀ ns ∈ J, GJ ((i + 4 * b + o : Nat) : Int) ns) ∧ ρ = [some (.own 0), some (cityD i b o l), some (.own 1), x, y, some (.own 2), z] ∧ s = [tp τ, .lst (C.map cellT), .lst (J.map rowT)]
theorem drawn_ap (τ : Tau) {i b o l : Nat} (hi : i ≤ 3) (hb : b ≤ 3) (ho : o ≤ 3) (hl : l ≤ 3) : ∃ C J τ', m__law_drawn [tp τ] [.own 0, cityD i b o l] = some (.ok (planE C J) [tp τ']) ∧ C.length = b ∧ J.length = l ∧ (∀ x ∈ C, vCell x) ∧
    ∀ ns ∈ J, (∀ x ∈ ns, 0 ≤ x ∧ x < (i + 4 * b + o : Nat)) ∧ ns.Pairwise (· < ·) ∧ ns.length ≤ 3 := by
  have s1 : smallI (b : Int) = true := smallI_nat (le_LIM (by omega))
  have s2 : smallI (l : Int) = true := smallI_nat (le_LIM (by omega))
  have wC : ∀ (n : Nat) (C : List (Option (Int × Int × Int))), lowS n (.lst (C.map cellT)) = true := fun n C => by rw [lowS, lows_all]; exact all_cellT n C
  have wJ : ∀ (n : Nat) (J : List (List Int)), lowS n (.lst (J.map rowT)) = true := fun n J => by rw [lowS, lows_all]; exact all_rowT n J
  simp [m__law_drawn, VM.run, g__law_drawn, startD, cityD, s1]
  generalize hX : forL _ _ _ _ _ _ = X
  obtain ⟨ρ', s', rfl, C, τ1, x, y, hC, vC, rfl, rfl⟩ : ∃ ρ' s', X = some (.nx ρ' s') ∧ PCel i b o l b ρ' s' := by
    subst hX
    refine forL_rngP (P := PCel i b o l) ⟨[], τ, none, none, rfl, (fun _ h => nomatch h), by simp [cityD], rfl⟩ ?_
    rintro k hk _ _ ⟨C, τ1, x, y, hC, vC, rfl, rfl⟩
    refine ⟨_, rfl, ?_⟩
    have l1 : C.length < LIM := Nat.lt_of_lt_of_le (m := 100) (by omega) (le_LIM (by decide))
    have pk : ∀ (τ : Tau) (m : Int), 0 < m → m < 1073741824 → m__law_pick [tp τ, .lst (C.map cellT)] [.own 0, .int m] = some (.ok (.int (dr τ m)) [tp (nx τ m), .lst (C.map cellT)]) := fun τ m h1 h2 => pick_ap h1 h2 (by simp [wC])
    have p1 := pk τ1 2 (by decide) (by decide)
    have p2 := pk (nx τ1 2) 256 (by decide) (by decide)
    have p3 := pk (nx (nx τ1 2) 256) 2 (by decide) (by decide)
    have p4 := pk (nx (nx (nx τ1 2) 256) 2) 2 (by decide) (by decide)
    have q2 := dr_lo (nx τ1 2) 256
    have q2' := dr_hi (nx τ1 2) (many := 256) (by decide)
    have q1 := dr2 τ1
    have q3 := dr2 (nx (nx τ1 2) 256)
    have q4 := dr2 (nx (nx (nx τ1 2) 256) 2)
    have mk : ∀ c : Option (Int × Int × Int), vCell c → C.map cellT ++ [cellT c] = (C ++ [c]).map cellT ∧ (C ++ [c]).length = k + 1 ∧ ∀ x ∈ C ++ [c], vCell x := fun c hc => ⟨by simp, by simp [hC], fun x hx => by
      rcases List.mem_append.mp hx with h | h
      · exact vC x h
      · rw [List.mem_singleton.mp h]; exact hc⟩
    generalize hd2 : dr (nx τ1 2) 256 = d2 at *
    rcases q1 with q1 | q1 <;> rcases q3 with q3 | q3 <;> rcases q4 with q4 | q4 <;> rw [q1] at p1 <;> rw [q3] at p3 <;> rw [q4] at p4 <;> simp [p1, p2, p3, p4, mulI, appD_own, l1]
    all_goals first
      | (obtain ⟨e1, e2, e3⟩ := mk none True.intro; exact ⟨_, _, _, _, e2, e3, rfl, by rw [List.map_append]; rfl⟩)
      | (obtain ⟨e1, e2, e3⟩ := mk (some (d2, 0, 0)) ⟨⟨q2, q2'⟩, by decide, by decide⟩; exact ⟨_, _, _, _, e2, e3, rfl, by rw [List.map_append]; rfl⟩)
      | (obtain ⟨e1, e2, e3⟩ := mk (some (d2, 1, 0)) ⟨⟨q2, q2'⟩, by decide, by decide⟩; exact ⟨_, _, _, _, e2, e3, rfl, by rw [List.map_append]; rfl⟩)
      | (obtain ⟨e1, e2, e3⟩ := mk (some (d2, 1, 1)) ⟨⟨q2, q2'⟩, by decide, by decide⟩; exact ⟨_, _, _, _, e2, e3, rfl, by rw [List.map_append]; rfl⟩)
  simp [cityD, s2, getN_cons]
  generalize hX : forL _ _ _ _ _ _ = X
  obtain ⟨ρ', s', rfl, J, τ2, x2, y2, z2, hJ, vJ, rfl, rfl⟩ : ∃ ρ' s', X = some (.nx ρ' s') ∧ PRow i b o l C l ρ' s' := by
    subst hX
    refine forL_rngP (P := PRow i b o l C) ⟨[], τ1, x, y, none, rfl, (fun _ h => nomatch h), by simp [cityD], rfl⟩ ?_
    rintro k hk _ _ ⟨J, τ1, x, y, z, hJ, vJ, rfl, rfl⟩
    refine ⟨_, rfl, ?_⟩
    have pk : ∀ (τ : Tau) (m : Int), 0 < m → m < 1073741824 → m__law_pick [tp τ, .lst (C.map cellT), .lst (J.map rowT)] [.own 0, .int m] = some (.ok (.int (dr τ m)) [tp (nx τ m), .lst (C.map cellT), .lst (J.map rowT)]) := fun τ m h1 h2 => pick_ap h1 h2 (by simp [wC, wJ])
    have p1 := pk τ1 4 (by decide) (by decide)
    have q1 := dr_lo τ1 4
    have q2 := dr_hi τ1 (many := 4) (by decide)
    generalize dr τ1 4 = d1 at *
    generalize nx τ1 4 = τ2 at *
    have s3 : smallI d1 = true := smallI_of (by omega) (by omega)
    have l3 : d1.toNat ≤ LIM := le_LIM (by omega)
    simp [p1, s3, fLc_ap, l3]
    generalize hX : lcL _ _ _ _ _ _ _ = X
    obtain ⟨ys, s', rfl, ns, τ3, rfl, hn, hns, rfl⟩ : ∃ ys s', X = some (ys, s') ∧ ∃ (ns : List Int) (τ : Tau), ys = ns.map .int ∧ ns.length = d1.toNat ∧ (∀ x ∈ ns, 0 ≤ x ∧ x < max 1 ((i + 4 * b + o : Nat) : Int)) ∧ s' = [tp τ, .lst (C.map cellT), .lst (J.map rowT)] := by
      subst hX
      refine lcL_rngP (P := fun n ys s' => ∃ (ns : List Int) (τ : Tau), ys = ns.map .int ∧ ns.length = n ∧ (∀ x ∈ ns, 0 ≤ x ∧ x < max 1 ((i + 4 * b + o : Nat) : Int)) ∧ s' = [tp τ, .lst (C.map cellT), .lst (J.map rowT)]) ⟨[], τ2, rfl, rfl, (fun _ h => nomatch h), rfl⟩ ?_
      rintro j hj _ _ ⟨ns, τ3, rfl, hn, hns, rfl⟩
      refine ⟨_, rfl, rfl, ?_⟩
      have pc := pinc_ap (s := [tp τ3, .lst (C.map cellT), .lst (J.map rowT)]) (i := i) (b := b) (o := o) (l := l) (by simp [Low, wC, wJ])
      simp only [cityD] at pc
      have em : (if 1 < (i : Int) + 4 * b + o then (i : Int) + 4 * b + o else 1) = max 1 ((i + 4 * b + o : Nat) : Int) := by split <;> omega
      have p2 := pk τ3 (max 1 ((i + 4 * b + o : Nat) : Int)) (by omega) (by omega)
      have r1 := dr_lo τ3 (max 1 ((i + 4 * b + o : Nat) : Int))
      have r2 := dr_hi τ3 (many := max 1 ((i + 4 * b + o : Nat) : Int)) (by omega)
      generalize max 1 ((i + 4 * b + o : Nat) : Int) = M at em p2 r1 r2 hns ⊢
      simp [cityD, pc, em, p2]
      refine ⟨ns ++ [dr τ3 M], by rw [List.map_append]; rfl, by simp [hn], fun x hx => ?_, _, rfl⟩
      rcases List.mem_append.mp hx with h | h
      · exact hns x h
      · rw [List.mem_singleton.mp h]
        exact ⟨r1, r2⟩
    have l4 : ns.length ≤ 4000 := by omega
    have l5 : (dedI ns).length < 64 := Nat.lt_of_le_of_lt (dedI_len ns) (by omega)
    have l6 : J.length < LIM := Nat.lt_of_lt_of_le (m := 100) (by omega) (le_LIM (by decide))
    have g := row_good hns (by omega)
    simp [srt_set, l4, l5, appD_own, l6]
    exact ⟨J ++ [sortI (dedI ns)], τ3, _, _, _, by simp [hJ], fun ns hn => by
      rcases List.mem_append.mp hn with h | h
      · exact vJ ns h
      · rw [List.mem_singleton.mp h]
        exact g, rfl, by rw [List.map_append]; rfl⟩
  have pc := pinc_ap (s := [tp τ2, .lst (C.map cellT), .lst (J.map rowT)]) (i := i) (b := b) (o := o) (l := l) (by simp [Low, wC, wJ])
  simp only [cityD] at pc
  have pm := fun J' (v : VP C J') => plan_mk (s := [tp τ2, .lst (C.map cellT), .lst (J.map rowT)]) (by simp [Low, wC, wJ]) v
  have ff : ∀ J', fin false 1 (planE C J') [tp τ2, .lst (C.map cellT), .lst (J.map rowT)] = some (.ok (planE C J') [tp τ2]) := fun J' => fin_app (s := [tp τ2]) (t := [.lst (C.map cellT), .lst (J.map rowT)]) (by simp [Low]) (low_planE _ C J')
  by_cases h0 : (i : Int) + 4 * b + o = 0
  · have v : VP C (List.replicate l []) := ⟨vC, fun x hx => by rw [List.eq_of_mem_replicate hx]; exact ⟨fun _ h => (nomatch h), List.Pairwise.nil, Nat.zero_le _⟩, by omega, by rw [List.length_replicate]; omega⟩
    have e := pm _ v
    have c2 : (List.replicate l ([] : List Int)).map rowT = List.replicate l (D.tup []) := by
      rw [List.map_replicate]
      rfl
    rw [c2] at e
    have l7 : l ≤ LIM := le_LIM (by omega)
    refine ⟨C, List.replicate l [], ⟨τ2, ?_⟩, hC, List.length_replicate, vC, fun x hx => by rw [List.eq_of_mem_replicate hx]; exact ⟨fun _ h => (nomatch h), List.Pairwise.nil, Nat.zero_le _⟩⟩
    simp [cityD, pc, h0, getN_cons, s2, l7, e, ff]
  · have v : VP C J := ⟨vC, fun ns hn => ⟨fun x hx => by have := (vJ ns hn).lo x hx; omega, (vJ ns hn).st, by have := (vJ ns hn).len; omega⟩, by omega, by omega⟩
    refine ⟨C, J, ⟨τ2, ?_⟩, hC, hJ, vC, fun ns hn => ⟨fun x hx => by have := (vJ ns hn).lo x hx; omega, (vJ ns hn).st, (vJ ns hn).len⟩⟩
    simp [cityD, pc, h0, pm _ v, ff]
end LW
set_option Elab.async false
set_option maxRecDepth 100000
set_option maxHeartbeats 4000000
set_option linter.all false
set_option autoImplicit false
namespace LW
open PySem L2 VM
/-! ### changes -/
/-- what a list holds whose places are overlaid by a dict -/
def OV (xs0 xs : List D) (ks vs : List D) : Prop := xs.length = xs0.length ∧ ks.length = vs.length ∧ ∀ k, k < xs0.length → xs[k]? = some ((lookD (.inl (k : Int)) ks vs).getD (xs0.getD k .non))
theorem OV.start (xs : List D) : OV xs xs [] [] := ⟨rfl, rfl, fun k hk => by
  rw [List.getElem?_eq_getElem hk, List.getD_eq_getElem?_getD, List.getElem?_eq_getElem hk]
  rfl⟩
theorem OV.put {xs0 xs ks vs : List D} (h : OV xs0 xs ks vs) {k : Nat} (hk : k < xs0.length) (v : D) : OV xs0 (xs.set k v) (kputD (.inl (k : Int)) v ks vs).1 (kputD (.inl (k : Int)) v ks vs).2 := by
  obtain ⟨h1, h2, h3⟩ := h
  refine ⟨by rw [List.length_set]; exact h1, kputD_len h2, fun j hj => ?_⟩
  rw [lookD_put h2]
  by_cases e : j = k
  · subst e
    rw [if_pos rfl, List.getElem?_set_self (by omega)]
    rfl
  · rw [if_neg (fun z => e (by injection z with z; omega)), List.getElem?_set_ne (fun z => e z.symm)]
    exact h3 j hj
theorem OV.eq {xs0 xs ks vs : List D} (h : OV xs0 xs ks vs) : xs = (List.range xs0.length).map fun k : Nat => (lookD (.inl (k : Int)) ks vs).getD (xs0.getD k .non) := by
  obtain ⟨h1, h2, h3⟩ := h
  apply List.ext_getElem?
  intro k
  by_cases hk : k < xs0.length
  · rw [h3 k hk, List.getElem?_map, List.getElem?_range hk]
    rfl
  · rw [List.getElem?_eq_none (by omega), List.getElem?_eq_none (by simp; omega)]
theorem chk_same {s : Sto} {l : Nat} {ds : List D} (h : lstO s[l]? = some ds) : chk (some (l, ds)) s = true := by
  have e : lstAt s l = some ds := by rw [lstAt_eq]; exact h
  show (match lstAt s l with
    | some es => sameDs es ds
    | none => false) = true
  rw [e]
  exact sameDs_refl ds
def chC (i b o l : Nat) (C : Cells) (J : Rows) (n : Nat) (ρ : Rho) (s : Sto) : Prop := ∃ (C' : Cells) (ks vs : List D) (τ : Tau) (x : Option D), (∀ c ∈ C', vCell c) ∧ OV (C.map cellT) (C'.map cellT) ks vs ∧ ks.length ≤ n ∧ lows 0 vs = true ∧
  ρ = [some (.own 0), some (cityD i b o l), some (planE C J), some (.own 1), some (.own 2), some (.own 3), some (.own 4), x, none, none, none, none, none, none] ∧ s = [tp τ, .lst (C'.map cellT), .lst (J.map rowT), .dct false ks vs, .dct false [] []]
def chJ (i b o l : Nat) (C C' : Cells) (J : Rows) (ks vs : List D) (n : Nat) (ρ : Rho) (s : Sto) : Prop := ∃ (J' : Rows) (ks2 vs2 : List D) (τ : Tau) (x : Option D), (∀ ns ∈ J', (∀ x ∈ ns, 0 ≤ x ∧ x < (i + 4 * b + o : Nat)) ∧ ns.Pairwise (· < ·) ∧ ns.length ≤ 3) ∧ OV (J.map rowT) (J'.map rowT) ks2 vs2 ∧ ks2.length ≤ n ∧ lows 0 vs2 = true ∧
  ρ = [some (.own 0), some (cityD i b o l), some (planE C J), some (.own 1), some (.own 2), some (.own 3), some (.own 4), x, none, none, none, none, none, none] ∧ s = [tp τ, .lst (C'.map cellT), .lst (J'.map rowT), .dct false ks vs, .dct false ks2 vs2]
theorem mem_set {α : Type} {xs : List α} {k : Nat} {a b : α} (h : a ∈ xs.set k b) : a ∈ xs ∨ a = b := List.mem_or_eq_of_mem_set h
end LW
set_option Elab.async false
set_option maxRecDepth 100000
set_option maxHeartbeats 4000000
set_option linter.all false
set_option autoImplicit false
namespace LW
open PySem L2 VM
section
variable {s : Sto} {C : Cells} {J : Rows} {i b o l : Int} {n : Nat} {tab : List (Nat × Bool)} {T : TN}
@[simp] theorem insD_city : insD s (cityD i b o l) = some (20, [3, 0, 4, 1], [.int i, .int b, .int o, .int l]) := nrf rfl
@[simp] theorem insD_plan : insD s (planE C J) = some (21, [5, 6], [.tup (C.map cellT), .tup (J.map rowT)]) := nrf rfl
@[simp] theorem isCl_city : isCl tab s (cityD i b o l) = tab.lookup 20 := nrf rfl
@[simp] theorem isCl_plan : isCl tab s (planE C J) = tab.lookup 21 := nrf rfl
@[simp] theorem isT_city : isT T s (cityD i b o l) = some false := nrf rfl
@[simp] theorem isT_plan : isT T s (planE C J) = some false := nrf rfl
@[simp] theorem isNone_city : isNone (cityD i b o l) = false := nrf rfl
@[simp] theorem isNone_plan : isNone (planE C J) = false := nrf rfl
@[simp] theorem low_city : low n (cityD i b o l) = true := nrf rfl
@[simp] theorem low_plan : low n (planE C J) = true := low_planE n C J
end
theorem ne_pair {s : Sto} {p : Str} {x : Int} (h : PyData.strOk p = true) : neD s (.tup [.str p, .int x]) (.tup [.str p, .int x]) = some (.bl false) := by
  have hd : datD 1 (.tup [.str p, .int x]) = true := by simp [datD, h]
  rw [neD_dat hd hd (by decide) (by decide), eqv_refl hd]
  rfl
theorem ne_pair2 {s : Sto} {p : Str} {x : Int} (h : PyData.strOk p = true) : neD s (.tup [.tup [.str p, .int x]]) (.tup [.tup [.str p, .int x]]) = some (.bl false) := by
  have hd : datD 2 (.tup [.tup [.str p, .int x]]) = true := by simp [datD, h]
  rw [neD_dat hd hd (by decide) (by decide), eqv_refl hd]
  rfl
theorem eq_pair {s : Sto} {p : Str} {x : Int} (h : PyData.strOk p = true) : eqD s (.tup [.str p, .int x]) (.tup [.str p, .int x]) = some (.bl true) := by
  have hd : datD 1 (.tup [.str p, .int x]) = true := by simp [datD, h]
  rw [eqD_dat hd hd (by decide) (by decide), eqv_refl hd]
theorem lows_any {n : Nat} {vs : List D} (h : lows 0 vs = true) : lows n vs = true := lows_mono (Nat.zero_le n) vs h
theorem lowS_cells (n : Nat) (C : Cells) : lowS n (.lst (C.map cellT)) = true := by rw [lowS, lows_all]; exact all_cellT n C
theorem lowS_rows (n : Nat) (J : Rows) : lowS n (.lst (J.map rowT)) = true := by rw [lowS, lows_all]; exact all_rowT n J
theorem changes_ap (τ : Tau) {i b o l : Nat} (hi : i ≤ 3) (hb : b ≤ 3) (ho : o ≤ 3) (hl : l ≤ 3) {C : Cells} {J : Rows} (hC : C.length = b) (hJ : J.length = l) (vC : ∀ x ∈ C, vCell x)
    (vJ : ∀ ns ∈ J, (∀ x ∈ ns, 0 ≤ x ∧ x < (i + 4 * b + o : Nat)) ∧ ns.Pairwise (· < ·) ∧ ns.length ≤ 3) : ∃ τ', m__law_changes [tp τ] [.own 0, cityD i b o l, planE C J] = some (.ok (.bl true) [tp τ']) := by
  have s1 : smallI (b : Int) = true := smallI_nat (le_LIM (by omega))
  have s2 : smallI (l : Int) = true := smallI_nat (le_LIM (by omega))
  have vp : ∀ (C : Cells) (J : Rows), (∀ x ∈ C, vCell x) → (∀ ns ∈ J, (∀ x ∈ ns, 0 ≤ x ∧ x < (i + 4 * b + o : Nat)) ∧ ns.Pairwise (· < ·) ∧ ns.length ≤ 3) → C.length ≤ 10 → J.length ≤ 10 → VP C J := fun C J h1 h2 h3 h4 =>
    ⟨h1, fun ns hn => ⟨fun x hx => by have := (h2 ns hn).1 x hx; omega, (h2 ns hn).2.1, by have := (h2 ns hn).2.2; omega⟩, by omega, by omega⟩
  simp [m__law_changes, VM.run, g__law_changes, startD, planE, planD, getN_cons]
  simp [cityD, s1]
  generalize hX : forL _ _ _ _ _ _ = X
  obtain ⟨ρ', s', rfl, C', ks, vs, τ1, x, vC', ov, hks, lv, rfl, rfl⟩ : ∃ ρ' s', X = some (.nx ρ' s') ∧ chC i b o l C J b ρ' s' := by
    subst hX
    refine forL_rngP (P := chC i b o l C J) ⟨C, [], [], τ, none, vC, .start _, Nat.le_refl _, rfl, by simp [cityD, planE, planD], rfl⟩ ?_
    rintro k hk _ _ ⟨C', ks, vs, τ1, x, vC', ov, hks, lv, rfl, rfl⟩
    refine ⟨_, rfl, ?_⟩
    have hk2 : k < C'.length := by have := ov.1; simp at this; omega
    have pk : ∀ τ : Tau, m__law_pick [tp τ, .lst (C'.map cellT), .lst (J.map rowT), .dct false ks vs, .dct false [] []] [.own 0, .int 2] = some (.ok (.int (dr τ 2)) [tp (nx τ 2), .lst (C'.map cellT), .lst (J.map rowT), .dct false ks vs, .dct false [] []]) := fun τ => pick_ap (by decide) (by decide) (by simp [lowS_cells, lowS_rows]; simp [lowS, lows_any lv, lows])
    have p1 := pk τ1
    have p2 := pk (nx τ1 2)
    have l1 : ks.length < LIM := Nat.lt_of_lt_of_le (m := 100) (by omega) (le_LIM (by decide))
    have step : ∀ c : Option (Int × Int × Int), vCell c → ∃ τ x, chC i b o l C J (k + 1) [some (.own 0), some (cityD i b o l), some (planE C J), some (.own 1), some (.own 2), some (.own 3), some (.own 4), some (.int k), none, none, none, none, none, none]
        [tp (nx (nx τ1 2) 2), .lst ((C'.map cellT).set k (cellT c)), .lst (J.map rowT), .dct false (kputD (.inl (k : Int)) (cellT c) ks vs).1 (kputD (.inl (k : Int)) (cellT c) ks vs).2, .dct false [] []] ∧ lookD (.inl (k : Int)) (kputD (.inl (k : Int)) (cellT c) ks vs).1 (kputD (.inl (k : Int)) (cellT c) ks vs).2 = some (cellT c) ∧ x = τ ∧ τ = 0 := fun c hc =>
      ⟨0, 0, ⟨C'.set k c, _, _, nx (nx τ1 2) 2, _, fun y hy => by
        rcases mem_set hy with h | h
        · exact vC' y h
        · rw [h]; exact hc, by rw [List.map_set]; exact ov.put (by simp; omega) _, Nat.le_trans kputD_le (by omega), kputD_low (low_cellT 0 c) lv, rfl, by rw [List.map_set]⟩, by rw [lookD_put ov.2.1, if_pos rfl], rfl, rfl⟩
    rcases dr2 τ1 with q1 | q1 <;> rw [q1] at p1
    · rcases dr2 (nx τ1 2) with q2 | q2 <;> rw [q2] at p2
      · obtain ⟨_, _, h1, h2, _, _⟩ := step none True.intro
        simp [p1, p2, dputD_own, l1, getD_ap]
        simp [cellT] at h1 h2
        simp [h2, putD_own, ixN_nat, hk2]
        exact h1
      · obtain ⟨_, _, h1, h2, _, _⟩ := step (some (7, 1, 1)) ⟨by decide, by decide, by decide⟩
        simp [p1, p2, dputD_own, l1, getD_ap]
        simp [cellT] at h1 h2
        simp [h2, putD_own, ixN_nat, hk2]
        exact h1
    · simp [p1]
      exact ⟨C', ks, vs, _, _, vC', ov, by omega, lv, rfl, rfl⟩
  simp [cityD, s2, getN_cons]
  generalize hX : forL _ _ _ _ _ _ = X
  obtain ⟨ρ', s', rfl, J', ks2, vs2, τ2, x2, vJ', ov2, hks2, lv2, rfl, rfl⟩ : ∃ ρ' s', X = some (.nx ρ' s') ∧ chJ i b o l C C' J ks vs l ρ' s' := by
    subst hX
    refine forL_rngP (P := chJ i b o l C C' J ks vs) ⟨J, [], [], τ1, x, vJ, .start _, Nat.le_refl _, rfl, by simp [cityD, planE, planD], rfl⟩ ?_
    rintro k hk _ _ ⟨J', ks2, vs2, τ1, x, vJ', ov2, hks2, lv2, rfl, rfl⟩
    refine ⟨_, rfl, ?_⟩
    have hk2 : k < J'.length := by have := ov2.1; simp at this; omega
    have lo : Low [tp τ1, SO.lst (C'.map cellT), .lst (J'.map rowT), .dct false ks vs, .dct false ks2 vs2] := by simp [Low, lowS_cells, lowS_rows]; simp [lowS, lows_any lv, lows_any lv2]
    have pk : ∀ (τ : Tau) (m : Int), 0 < m → m < 1073741824 → m__law_pick [tp τ, .lst (C'.map cellT), .lst (J'.map rowT), .dct false ks vs, .dct false ks2 vs2] [.own 0, .int m] = some (.ok (.int (dr τ m)) [tp (nx τ m), .lst (C'.map cellT), .lst (J'.map rowT), .dct false ks vs, .dct false ks2 vs2]) := fun τ m h1 h2 => pick_ap h1 h2 (by simp [lowS_cells, lowS_rows]; simp [lowS, lows_any lv, lows_any lv2])
    have pc : ∀ τ, m_City_pin_count [tp τ, .lst (C'.map cellT), .lst (J'.map rowT), .dct false ks vs, .dct false ks2 vs2] [cityD i b o l] = _ := fun τ => pinc_ap (i := i) (b := b) (o := o) (l := l) (by simp [Low, lowS_cells, lowS_rows]; simp [lowS, lows_any lv, lows_any lv2])
    simp only [cityD] at pc
    have p1 := pk τ1 2 (by decide) (by decide)
    have l1 : ks2.length < LIM := Nat.lt_of_lt_of_le (m := 100) (by omega) (le_LIM (by decide))
    rcases dr2 τ1 with q1 | q1 <;> rw [q1] at p1
    · by_cases hN : 0 < (i : Int) + 4 * b + o
      · have p2 := pk (nx τ1 2) ((i : Int) + 4 * b + o) hN (by omega)
        have r1 := dr_lo (nx τ1 2) ((i : Int) + 4 * b + o)
        have r2 := dr_hi (nx τ1 2) hN
        generalize dr (nx τ1 2) ((i : Int) + 4 * b + o) = p at p2 r1 r2
        have h1 : chJ i b o l C C' J ks vs (k + 1) [some (.own 0), some (cityD i b o l), some (planE C J), some (.own 1), some (.own 2), some (.own 3), some (.own 4), some (.int k), none, none, none, none, none, none]
          [tp (nx (nx τ1 2) ((i : Int) + 4 * b + o)), .lst (C'.map cellT), .lst ((J'.map rowT).set k (rowT [p])), .dct false ks vs, .dct false (kputD (.inl (k : Int)) (rowT [p]) ks2 vs2).1 (kputD (.inl (k : Int)) (rowT [p]) ks2 vs2).2] :=
          ⟨J'.set k [p], _, _, _, _, fun y hy => by
            rcases mem_set hy with h | h
            · exact vJ' y h
            · rw [h]
              exact ⟨fun x hx => by rw [List.mem_singleton.mp hx]; omega, List.pairwise_singleton _ _, by simp⟩, by rw [List.map_set]; exact ov2.put (by simp; omega) _, Nat.le_trans kputD_le (by omega), kputD_low (low_rowT 0 [p]) lv2, rfl, by rw [List.map_set]⟩
        have h2 : lookD (.inl (k : Int)) (kputD (.inl (k : Int)) (rowT [p]) ks2 vs2).1 (kputD (.inl (k : Int)) (rowT [p]) ks2 vs2).2 = some (rowT [p]) := by rw [lookD_put ov2.2.1, if_pos rfl]
        simp [rowT, cityD] at h1 h2
        simp [cityD, pc, p1, p2, dputD_own, l1, getD_ap, h2, hN, putD_own, ixN_nat, hk2]
        exact h1
      · simp [cityD, pc, p1, hN]
        exact ⟨J', ks2, vs2, _, _, vJ', ov2, by omega, lv2, rfl, rfl⟩
    · simp [p1]
      exact ⟨J', ks2, vs2, _, _, vJ', ov2, by omega, lv2, rfl, rfl⟩
  have lC : C'.length ≤ 10 := by have := ov.1; simp at this; omega
  have lJ : J'.length ≤ 10 := by have := ov2.1; simp at this; omega
  have v' := vp C' J' vC' vJ' lC lJ
  have v0 := vp C J vC vJ (by omega) (by omega)
  let S : Tau → Sto := fun τ => [tp τ, .lst (C'.map cellT), .lst (J'.map rowT), .dct false ks vs, .dct false ks2 vs2]
  have lo : ∀ τ, Low (S τ) := fun τ => by simp [S, Low, lowS_cells, lowS_rows]; simp [lowS, lows_any lv, lows_any lv2]
  have c1 := changed_ap (lo τ2) (C := C) (C' := C') (J := J) (J' := J') (d1 := .own 3) (d2 := .own 4) (ks := ks) (vs := vs) (ks2 := ks2) (vs2 := vs2) (by simp [S]) (by simp [S]) (by omega) (by omega) v' (by have := ov.eq; simpa using this) (by have := ov2.eq; simpa using this)
  have pm := plan_mk (lo τ2) v'
  have e1 := planeqR (lo τ2) (C := C') (J := J')
  have e2 := planeqI (lo τ2) (C := C') (J := J') (C' := C) (J' := J) (neg := false)
  have e3 := fun τ => eqD_dat (s := S τ) (dat_cells C') (dat_cells C) (by decide) (by decide)
  have e4 := fun τ => eqD_dat (s := S τ) (dat_rows J') (dat_rows J) (by decide) (by decide)
  simp only [S] at c1 pm e1 e2 e3 e4
  have pc := fun τ => pinc_ap (lo τ) (i := i) (b := b) (o := o) (l := l)
  have pk : ∀ (τ : Tau) (m : Int), 0 < m → m < 1073741824 → m__law_pick (S τ) [.own 0, .int m] = some (.ok (.int (dr τ m)) (S (nx τ m))) := fun τ m h1 h2 => pick_ap h1 h2 (by simp [lowS_cells, lowS_rows]; simp [lowS, lows_any lv, lows_any lv2])
  have p3 := pk τ2 3 (by decide) (by decide)
  have r3 := dr_lo τ2 3
  have r3' := dr_hi τ2 (many := 3) (by decide)
  simp only [S] at pc p3
  generalize dr τ2 3 = d3 at *
  generalize nx τ2 3 = τ3 at *
  have v1 : VP (C ++ [none]) J := vp _ _ (fun x hx => by
    rcases List.mem_append.mp hx with h | h
    · exact vC x h
    · rw [List.mem_singleton.mp h]; exact True.intro) vJ (by simp; omega) (by omega)
  have v2 : VP C (J ++ [[]]) := vp _ _ vC (fun x hx => by
    rcases List.mem_append.mp hx with h | h
    · exact vJ x h
    · rw [List.mem_singleton.mp h]
      exact ⟨fun _ h => (nomatch h), List.Pairwise.nil, Nat.zero_le _⟩) (by omega) (by simp; omega)
  have v3 : VP (C ++ [none]) [] := vp _ _ v1.c (fun _ h => nomatch h) (by simp; omega) (by simp)
  have m1 := plan_mk (lo τ3) v1
  have m2 := plan_mk (lo τ3) v2
  have m3 := plan_mk (lo τ3) v3
  have a1 : (C ++ [none]).map cellT = C.map cellT ++ [.non] := by rw [List.map_append]; rfl
  have a2 : (J ++ [[]]).map rowT = J.map rowT ++ [.tup []] := by rw [List.map_append]; rfl
  rw [a1] at m1 m3
  rw [a2] at m2
  let S5 : List D → Sto := fun F => [tp τ3, .lst (C'.map cellT), .lst (J'.map rowT), .dct false ks vs, .dct false ks2 vs2, .lst F]
  have lo5 : ∀ F, lows 6 F = true → Low (S5 F) := fun F hF => by simp [S5, Low, lowS_cells, lowS_rows]; simp [lowS, lows_any lv, lows_any lv2, hF]
  have f1 : ∀ F, lows 6 F = true → m_plan_misfit (S5 F) [cityD i b o l, planE (C ++ [none]) J] = some (.ok (.tup [.str ("cells" : Str), .int ((b : Int) + 1)]) (S5 F)) := fun F hF => by
    rw [misfit_c (lo5 F hF) (by simp; omega)]
    simp [hC]
  have f2 : ∀ F, lows 6 F = true → m_plan_misfit (S5 F) [cityD i b o l, planE C (J ++ [[]])] = some (.ok (.tup [.str ("joins" : Str), .int ((l : Int) + 1)]) (S5 F)) := fun F hF => by
    rw [misfit_j (lo5 F hF) (by omega) (by simp; omega)]
    simp [hJ]
  have f3 : ∀ F, lows 6 F = true → m_plan_misfit (S5 F) [cityD i b o l, planE (C ++ [none]) []] = some (.ok (.tup [.str ("cells" : Str), .int ((b : Int) + 1)]) (S5 F)) := fun F hF => by
    rw [misfit_c (lo5 F hF) (by simp; omega)]
    simp [hC]
  have g1 := fun F hF => refused2 (lo5 F hF) (check_no (lo5 F hF) (f1 F hF)) rfl
  have g2 := fun F hF => refused2 (lo5 F hF) (check_no (lo5 F hF) (f2 F hF)) rfl
  have m3' := fun F hF => plan_mk (lo5 F hF) v3
  rw [a1] at m3'
  simp only [List.map_nil] at m3'
  have o1 : PyData.strOk ("cells" : Str) = true := by decide +kernel
  have o2 : PyData.strOk ("joins" : Str) = true := by decide +kernel
  have o3 : PyData.strOk ("pin" : Str) = true := by decide +kernel
  have ff : ∀ F, fin false 1 (.bl true) (S5 F) = some (.ok (.bl true) [tp τ3]) := fun F => fin_app (s := [tp τ3]) (by simp [Low]) rfl
  simp only [S5] at f1 f2 f3 g1 g2 m3' ff
  have lC2 : C.length + 1 ≤ LIM := le_LIM (by omega)
  have lJ2 : J.length + 1 ≤ LIM := le_LIM (by omega)
  simp only [S] at m1 m2
  have e5 : fAnd (fOp eqD (fCB (VM.c1 tupleD) (fCons (fVar 3) fNil)) (fFld 5 (fVar 2))) (fOp eqD (fCB (VM.c1 tupleD) (fCons (fVar 4) fNil)) (fFld 6 (fVar 2)))
      [some (D.own 0), some (cityD i b o l), some (planE C J), some (D.own 1), some (D.own 2), some (D.own 3), some (D.own 4), x2, some (planE C' J'), none, none, none, none, none] [tp τ2, .lst (C'.map cellT), .lst (J'.map rowT), .dct false ks vs, .dct false ks2 vs2] =
      some (.ok (.bl (eqv (.tup (C'.map cellT)) (.tup (C.map cellT)) && eqv (.tup (J'.map rowT)) (.tup (J.map rowT)))) [tp τ2, .lst (C'.map cellT), .lst (J'.map rowT), .dct false ks vs, .dct false ks2 vs2]) := by
    cases hA : eqv (.tup (C'.map cellT)) (.tup (C.map cellT)) <;> simp [e3, e4, hA, getN_cons]
  simp [-fAnd_ap, e5, c1, pm, e1, e2, getN_cons, pc, p3]
  rcases Nat.eq_zero_or_pos l with hl0 | hl0
  · have hJ0 : J = [] := List.eq_nil_of_length_eq_zero (by omega)
    subst hJ0
    subst hl0
    have m0 := plan_mk (lo τ3) v0
    simp only [S] at m0
    simp only [List.map_nil] at *
    have cz : cutD [] none (some (-1)) = [] := rfl
    simp only [show ((0 : Nat) : Int) = 0 from rfl] at f1 f2 f3 g1 g2
    simp at m0 m1 m2 f2 g2
    simp [cz, m0, m1, m2, getN_cons, lC2, forL_cons, forL_nil, chk_same, f1, f2, g1, g2, lows, low, ne_pair, ne_pair2, o1, o2, m3', f3, eq_pair, ff]
    exact ⟨τ3, rfl⟩
  · have vb : VP C (J.take (J.length - 1) ++ [[(i : Int) + 4 * b + o + d3]]) := ⟨vC, fun x hx => by
      rcases List.mem_append.mp hx with h | h
      · exact v0.j x (List.mem_of_mem_take h)
      · rw [List.mem_singleton.mp h]
        exact ⟨fun y hy => by rw [List.mem_singleton.mp hy]; omega, List.pairwise_singleton _ _, by simp⟩, by omega, by simp; omega⟩
    have mb := plan_mk (lo τ3) vb
    have a3 : (J.take (J.length - 1) ++ [[(i : Int) + 4 * b + o + d3]]).map rowT = (J.take (J.length - 1)).map rowT ++ [.tup [.int ((i : Int) + 4 * b + o + d3)]] := by rw [List.map_append]; rfl
    rw [a3] at mb
    have f4 : ∀ F, lows 6 F = true → m_plan_misfit (S5 F) [cityD i b o l, planE C (J.take (J.length - 1) ++ [[(i : Int) + 4 * b + o + d3]])] = some (.ok (.tup [.str ("pin" : Str), .int ((i : Int) + 4 * b + o + d3)]) (S5 F)) := fun F hF =>
      misfit_p (lo5 F hF) (by omega) (by rw [List.length_take]; omega) (fun ns hn x hx => by have := (vJ ns (List.mem_of_mem_take hn)).1 x hx; omega) (by omega)
    have g4 := fun F hF => refused2 (lo5 F hF) (check_no (lo5 F hF) (f4 F hF)) rfl
    have e6 : (if (l : Int) < 1 then (l : Int) else 1) = 1 := if_neg (by omega)
    have e7 : (0 : Int) < l := by omega
    have lJ3 : J.length - 1 + 1 ≤ LIM := le_LIM (by omega)
    simp only [S, S5] at mb f4 g4
    rw [List.map_take] at mb
    simp [cut_init, e6, lJ3, mb, m1, m2, getN_cons, lC2, lJ2, e7, hl0, putD_own, appD_own, forL_cons, forL_nil, chk_same, f1, f2, f4, g1, g2, g4, lows, low, ne_pair, ne_pair2, o1, o2, o3, m3', f3, eq_pair, ff]
    exact ⟨τ3, rfl⟩
end LW
set_option Elab.async false
set_option maxRecDepth 100000
set_option maxHeartbeats 4000000
set_option linter.all false
set_option autoImplicit false
namespace LW
open PySem L2 VM
/-! ### what is none -/
theorem ne_same {s : Sto} {d : D} {n : Nat} (h : datD n d = true) (hn : n ≤ 64) : neD s d d = some (.bl false) := by
  rw [neD_dat h h hn hn, eqv_refl h]
  rfl
theorem eq_same {s : Sto} {d : D} {n : Nat} (h : datD n d = true) (hn : n ≤ 64) : eqD s d d = some (.bl true) := by
  rw [eqD_dat h h hn hn, eqv_refl h]
/-- one of the six numbers that are none -/
theorem odd6 {d : Int} (h0 : 0 ≤ d) (h1 : d < 6) : ∃ v, atI [D.int 201, .int (-1), .bl true, .non, .str ("1" : Str), .tup [.int 1]] d = some v ∧ ifz 201 v = false ∧ plv v = true ∧ ∀ n, low n v = true := by
  have : d = 0 ∨ d = 1 ∨ d = 2 ∨ d = 3 ∨ d = 4 ∨ d = 5 := by omega
  rcases this with rfl | rfl | rfl | rfl | rfl | rfl
  · exact ⟨_, rfl, by simp [ifz], rfl, fun _ => rfl⟩
  · exact ⟨_, rfl, by simp [ifz], rfl, fun _ => rfl⟩
  · exact ⟨_, rfl, rfl, rfl, fun _ => rfl⟩
  · exact ⟨_, rfl, rfl, rfl, fun _ => rfl⟩
  · exact ⟨_, rfl, rfl, rfl, fun _ => rfl⟩
  · exact ⟨_, rfl, rfl, rfl, fun _ => rfl⟩
abbrev odds : List D := [.tup [], .tup [.int 1, .int 0], .tup [.int 256, .int 0, .int 0], .tup [.int 1, .int 0, .int 1], .tup [.int 1, .int 2, .int 0], .tup [.int 1, .int 1, .int 2], .tup [.bl true, .int 0, .int 0], .lst [.int 1, .int 0, .int 0], .tup [.int 1, .bl true, .int 0], .int 7, .tup [.int (-1), .int 0, .int 0], .tup [.int 1, .int 0, .bl false]]
theorem odd12 {d : Int} (h0 : 0 ≤ d) (h1 : d < 12) : ∃ v, atI odds d = some v ∧ flat v = true ∧ isNone v = false ∧ bc v = false ∧ ∀ n, low n v = true := by
  have : d = 0 ∨ d = 1 ∨ d = 2 ∨ d = 3 ∨ d = 4 ∨ d = 5 ∨ d = 6 ∨ d = 7 ∨ d = 8 ∨ d = 9 ∨ d = 10 ∨ d = 11 := by omega
  rcases this with rfl | rfl | rfl | rfl | rfl | rfl | rfl | rfl | rfl | rfl | rfl | rfl <;> exact ⟨_, rfl, rfl, rfl, by simp [bc, ifz], fun _ => rfl⟩
abbrev bads : List D := [.non, .lst [.int 0], .tup [.int 1, .int 0], .tup [.int 0, .int 0], .tup [.int (-1)], .tup [.bl true], .tup [.int 0, .non], .int 7, .tup [.str ("0" : Str)], .tup [.int 1000000]]
theorem jr_nt' {d : D} (hp : plv d = true) (h : ∀ ds, d ≠ .tup ds) : JR d false := fun _ hs => jr_nt hs hp h
theorem jr_no' {ds : List D} (hp : ds.all plv = true) (hl : ds.length ≤ 1000) (h : ds.all (ifz 1000000) = false) : JR (.tup ds) false := fun _ hs => jr_no hs hp hl h
theorem jr_ap' {ns : List Int} (h : ∀ n ∈ ns, 0 ≤ n ∧ n < 1000000) (hl : ns.length ≤ 1000) (hi : incr ns = false) : JR (.tup (ns.map .int)) false := fun _ hs => by rw [jr_ap hs h hl, hi]
theorem bad10 {d : Int} (h0 : 0 ≤ d) (h1 : d < 10) : ∃ v, atI bads d = some v ∧ JR v false ∧ ∀ n, low n v = true := by
  have : d = 0 ∨ d = 1 ∨ d = 2 ∨ d = 3 ∨ d = 4 ∨ d = 5 ∨ d = 6 ∨ d = 7 ∨ d = 8 ∨ d = 9 := by omega
  rcases this with rfl | rfl | rfl | rfl | rfl | rfl | rfl | rfl | rfl | rfl
  · exact ⟨_, rfl, jr_nt' rfl (fun _ h => nomatch h), fun _ => rfl⟩
  · exact ⟨_, rfl, jr_nt' rfl (fun _ h => nomatch h), fun _ => rfl⟩
  · exact ⟨_, rfl, jr_ap' (ns := [1, 0]) (by simp) (by simp) (by decide), fun _ => rfl⟩
  · exact ⟨_, rfl, jr_ap' (ns := [0, 0]) (by simp) (by simp) (by decide), fun _ => rfl⟩
  · exact ⟨_, rfl, jr_no' rfl (by simp) (by simp [ifz]), fun _ => rfl⟩
  · exact ⟨_, rfl, jr_no' rfl (by simp) (by simp [ifz]), fun _ => rfl⟩
  · exact ⟨_, rfl, jr_no' rfl (by simp) (by simp [ifz]), fun _ => rfl⟩
  · exact ⟨_, rfl, jr_nt' rfl (fun _ h => nomatch h), fun _ => rfl⟩
  · exact ⟨_, rfl, jr_no' rfl (by simp) (by simp [ifz]), fun _ => rfl⟩
  · exact ⟨_, rfl, jr_no' rfl (by simp) (by simp [ifz]), fun _ => rfl⟩
end LW
set_option Elab.async false
set_option maxRecDepth 100000
set_option maxHeartbeats 4000000
set_option linter.all false
set_option autoImplicit false
namespace LW
open PySem L2 VM
theorem refN {W : Sto} (lo : Low W) {P a1 a2 a3 a4 : D} {k : Nat} (h0 : ixD W P (.int 0) = some a1) (h1 : ixD W P (.int 1) = some a2) (h2 : ixD W P (.int 2) = some a3) (h3 : ixD W P (.int 3) = some a4) (hk : k < 4)
    (h : ∀ j, j < k → ifz 201 ([a1, a2, a3, a4].getD j .non) = true) (hk2 : ifz 201 ([a1, a2, a3, a4].getD k .non) = false) (p1 : plv a1 = true) (p2 : plv a2 = true) (p3 : plv a3 = true) (p4 : plv a4 = true) :
    m__law_refused W [.int 0, P] = some (.ok (.tup [.int k]) W) := refused0 lo h0 h1 h2 h3 (city_no lo hk h hk2 p1 p2 p3 p4) rfl
/-- one of the numbers is none -/
theorem wrong_num {v : D} (hv : ifz 201 v = false) (pv : plv v = true) (lv : ∀ n, low n v = true) {i b o l : Int} (ni : ifz 201 (.int i) = true) (nb : ifz 201 (.int b) = true) (no : ifz 201 (.int o) = true) {k : Nat} (hk : k < 4) :
    ∃ N L : List D, (∀ n, lows n N = true) ∧ (∀ s : Sto, lstO s[1]? = some [.int i, .int b, .int o, .int l] → putD s (.own 1) (.int k) v = some (s.set 1 (.lst N))) ∧ cutD N none (some ((k : Int) + 1)) ++ List.replicate (3 - k) v = L ∧
      (∀ τ, m__law_refused [tp τ, .lst N] [.int 0, .own 1] = some (.ok (.tup [.int k]) [tp τ, .lst N])) ∧ (∀ τ, m__law_refused [tp τ, .lst N] [.int 0, .lst L] = some (.ok (.tup [.int k]) [tp τ, .lst N])) ∧ N[k]? = some v ∧ L.length = 4 := by
  rcases (show k = 0 ∨ k = 1 ∨ k = 2 ∨ k = 3 by omega) with rfl | rfl | rfl | rfl
  · let N : List D := [v, .int b, .int o, .int l]
    have hN : ∀ n, lows n N = true := fun n => by simp [N, lows, low, lv]
    have lo : ∀ τ, Low [tp τ, .lst N] := fun τ => by simp [Low, lowS_lst, hN]
    have R1 := fun τ => refN (lo τ) (P := .own 1) (a1 := v) (a2 := .int b) (a3 := .int o) (a4 := .int l) (k := 0) (by simp [N]) (by simp [N]) (by simp [N]) (by simp [N]) (by decide) (fun j hj => by omega) hv (by first | rfl | exact pv) (by first | rfl | exact pv) (by first | rfl | exact pv) (by first | rfl | exact pv)
    have R2 := fun τ => refN (lo τ) (P := .lst [v, v, v, v]) (a1 := v) (a2 := v) (a3 := v) (a4 := v) (k := 0) (by simp) (by simp) (by simp) (by simp) (by decide) (fun j hj => by omega) hv (by first | rfl | exact pv) (by first | rfl | exact pv) (by first | rfl | exact pv) (by first | rfl | exact pv)
    exact ⟨N, [v, v, v, v], hN, fun s hs => by simp [putD_own, hs, N], by rfl, R1, R2, by simp [N], rfl⟩
  · let N : List D := [.int i, v, .int o, .int l]
    have hN : ∀ n, lows n N = true := fun n => by simp [N, lows, low, lv]
    have lo : ∀ τ, Low [tp τ, .lst N] := fun τ => by simp [Low, lowS_lst, hN]
    have R1 := fun τ => refN (lo τ) (P := .own 1) (a1 := .int i) (a2 := v) (a3 := .int o) (a4 := .int l) (k := 1) (by simp [N]) (by simp [N]) (by simp [N]) (by simp [N]) (by decide) (fun j hj => by rcases (show j = 0 by omega) with rfl; exact ni) hv (by first | rfl | exact pv) (by first | rfl | exact pv) (by first | rfl | exact pv) (by first | rfl | exact pv)
    have R2 := fun τ => refN (lo τ) (P := .lst [.int i, v, v, v]) (a1 := .int i) (a2 := v) (a3 := v) (a4 := v) (k := 1) (by simp) (by simp) (by simp) (by simp) (by decide) (fun j hj => by rcases (show j = 0 by omega) with rfl; exact ni) hv (by first | rfl | exact pv) (by first | rfl | exact pv) (by first | rfl | exact pv) (by first | rfl | exact pv)
    exact ⟨N, [.int i, v, v, v], hN, fun s hs => by simp [putD_own, hs, N], by rfl, R1, R2, by simp [N], rfl⟩
  · let N : List D := [.int i, .int b, v, .int l]
    have hN : ∀ n, lows n N = true := fun n => by simp [N, lows, low, lv]
    have lo : ∀ τ, Low [tp τ, .lst N] := fun τ => by simp [Low, lowS_lst, hN]
    have R1 := fun τ => refN (lo τ) (P := .own 1) (a1 := .int i) (a2 := .int b) (a3 := v) (a4 := .int l) (k := 2) (by simp [N]) (by simp [N]) (by simp [N]) (by simp [N]) (by decide) (fun j hj => by rcases (show j = 0 ∨ j = 1 by omega) with rfl | rfl <;> first | exact ni | exact nb) hv (by first | rfl | exact pv) (by first | rfl | exact pv) (by first | rfl | exact pv) (by first | rfl | exact pv)
    have R2 := fun τ => refN (lo τ) (P := .lst [.int i, .int b, v, v]) (a1 := .int i) (a2 := .int b) (a3 := v) (a4 := v) (k := 2) (by simp) (by simp) (by simp) (by simp) (by decide) (fun j hj => by rcases (show j = 0 ∨ j = 1 by omega) with rfl | rfl <;> first | exact ni | exact nb) hv (by first | rfl | exact pv) (by first | rfl | exact pv) (by first | rfl | exact pv) (by first | rfl | exact pv)
    exact ⟨N, [.int i, .int b, v, v], hN, fun s hs => by simp [putD_own, hs, N], by rfl, R1, R2, by simp [N], rfl⟩
  · let N : List D := [.int i, .int b, .int o, v]
    have hN : ∀ n, lows n N = true := fun n => by simp [N, lows, low, lv]
    have lo : ∀ τ, Low [tp τ, .lst N] := fun τ => by simp [Low, lowS_lst, hN]
    have R1 := fun τ => refN (lo τ) (P := .own 1) (a1 := .int i) (a2 := .int b) (a3 := .int o) (a4 := v) (k := 3) (by simp [N]) (by simp [N]) (by simp [N]) (by simp [N]) (by decide) (fun j hj => by rcases (show j = 0 ∨ j = 1 ∨ j = 2 by omega) with rfl | rfl | rfl <;> first | exact ni | exact nb | exact no) hv (by first | rfl | exact pv) (by first | rfl | exact pv) (by first | rfl | exact pv) (by first | rfl | exact pv)
    have R2 := fun τ => refN (lo τ) (P := .lst [.int i, .int b, .int o, v]) (a1 := .int i) (a2 := .int b) (a3 := .int o) (a4 := v) (k := 3) (by simp) (by simp) (by simp) (by simp) (by decide) (fun j hj => by rcases (show j = 0 ∨ j = 1 ∨ j = 2 by omega) with rfl | rfl | rfl <;> first | exact ni | exact nb | exact no) hv (by first | rfl | exact pv) (by first | rfl | exact pv) (by first | rfl | exact pv) (by first | rfl | exact pv)
    exact ⟨N, [.int i, .int b, .int o, v], hN, fun s hs => by simp [putD_own, hs, N], by rfl, R1, R2, by simp [N], rfl⟩
end LW
set_option Elab.async false
set_option maxRecDepth 100000
set_option maxHeartbeats 4000000
set_option linter.all false
set_option autoImplicit false
namespace LW
open PySem L2 VM
theorem wrong_ap (τ : Tau) {i b o l : Nat} (hi : i ≤ 3) (hb : b ≤ 3) (ho : o ≤ 3) (hl : l ≤ 3) {C : Cells} {J : Rows} (hC : C.length = b) (hJ : J.length = l) (v0 : VP C J) : ∃ τ', m__law_wrong [tp τ] [.own 0, cityD i b o l, planE C J] = some (.ok (.bl true) [tp τ']) := by
  have ni : ifz 201 (.int (i : Int)) = true := by simp [ifz]; omega
  have nb : ifz 201 (.int (b : Int)) = true := by simp [ifz]; omega
  have no : ifz 201 (.int (o : Int)) = true := by simp [ifz]; omega
  have lC2 : C.length + 1 ≤ LIM := le_LIM (by omega)
  have lJ2 : J.length + 1 ≤ LIM := le_LIM (by omega)
  have k0 := dr_lo τ 4
  have k1 := dr_hi τ (many := 4) (by decide)
  obtain ⟨k, hk⟩ : ∃ k : Nat, dr τ 4 = (k : Int) := ⟨(dr τ 4).toNat, by omega⟩
  obtain ⟨v, e6, hv, pv, lv⟩ := odd6 (dr_lo (nx τ 4) 6) (dr_hi (nx τ 4) (by decide))
  obtain ⟨N, L, hN, hput, hcut, R1, R2, hget, hL⟩ := wrong_num hv pv lv (l := (l : Int)) ni nb no (k := k) (by omega)
  have lo : ∀ τ, Low [tp τ, .lst N] := fun τ => by simp [Low, lowS_lst, hN]
  have lo0 : ∀ τ, Low [tp τ, .lst [.int (i : Int), .int b, .int o, .int l]] := fun τ => by simp [Low, lowS_lst, lows, low]
  have pk0 : ∀ (τ : Tau) (m : Int), 0 < m → m < 1073741824 → m__law_pick [tp τ, .lst [.int (i : Int), .int b, .int o, .int l]] [.own 0, .int m] = some (.ok (.int (dr τ m)) [tp (nx τ m), .lst [.int (i : Int), .int b, .int o, .int l]]) := fun τ m h1 h2 => pick_ap h1 h2 (by simp [lowS_lst, lows, low])
  have pk : ∀ (τ : Tau) (m : Int), 0 < m → m < 1073741824 → m__law_pick [tp τ, .lst N] [.own 0, .int m] = some (.ok (.int (dr τ m)) [tp (nx τ m), .lst N]) := fun τ m h1 h2 => pick_ap h1 h2 (by simp [lowS_lst, hN])
  have p1 := pk0 τ 4 (by decide) (by decide)
  have p2 := pk0 (nx τ 4) 6 (by decide) (by decide)
  rw [hk] at p1
  generalize nx (nx τ 4) 6 = τ2 at *
  have p3 := pk τ2 12 (by decide) (by decide)
  obtain ⟨c, e12, fc, nc, bcc, lc⟩ := odd12 (dr_lo τ2 12) (dr_hi τ2 (by decide))
  have p4 := pk (nx τ2 12) 10 (by decide) (by decide)
  obtain ⟨r, e10, jrr, lr⟩ := bad10 (dr_lo (nx τ2 12) 10) (dr_hi (nx τ2 12) (by decide))
  have hc : ∀ d ∈ C.map cellT, flat d = true ∧ cellOk d = true := fun d hd => by
    obtain ⟨x, hx, rfl⟩ := List.mem_map.mp hd
    exact cellT_ok (v0.c x hx)
  have hj : ∀ d ∈ J.map rowT, JR d true := fun d hd => by
    obtain ⟨x, hx, rfl⟩ := List.mem_map.mp hd
    exact jr_row (v0.j x hx)
  have R3 := fun τ => refused0_ok (lo τ) (P := .lst [.int 200, .int 200, .int 200, .int 200]) (by simp) (by simp) (by simp) (by simp) (city_ok (lo τ) (i := 200) (b := 200) (o := 200) (l := 200) (by decide) (by decide) (by decide) (by decide))
  have R4 := fun τ => refused1 (lo τ) (plan_no3 (lo τ) (joins := J.map rowT) hc (by simp; omega) fc nc bcc) rfl
  have R5 := fun τ => refused1 (lo τ) (plan_no4 (lo τ) hc hj (by simp; omega) (by simp; omega) jrr) rfl
  have R6 := fun τ => refused1 (lo τ) (plan_no1 (lo τ) (c := .lst (C.map cellT)) (d := .tup (J.map rowT)) rfl (fun _ h => nomatch h)) rfl
  have R7 := fun τ => refused1 (lo τ) (plan_no2 (lo τ) (cells := C.map cellT) (d := .lst (J.map rowT)) rfl (fun _ h => nomatch h)) rfl
  have n1 := fun (s : Sto) (x : Int) => ne_same (s := s) (d := .tup [.int x]) (n := 1) rfl (by decide)
  have n2 := fun (s : Sto) (x : Int) => ne_pair2 (s := s) (p := ("cell" : Str)) (x := x) (by decide +kernel)
  have n3 := fun (s : Sto) (x : Int) => ne_pair2 (s := s) (p := ("join" : Str)) (x := x) (by decide +kernel)
  have o1 : PyData.strOk ("cell" : Str) = true := by decide +kernel
  have o2 : PyData.strOk ("join" : Str) = true := by decide +kernel
  have n4 := fun (s : Sto) => ne_same (s := s) (d := .tup [.tup [.str ("cell" : Str), .non]]) (n := 2) (by simp [datD, o1]) (by decide)
  have n5 := fun (s : Sto) => ne_same (s := s) (d := .tup [.tup [.str ("join" : Str), .non]]) (n := 2) (by simp [datD, o2]) (by decide)
  have hp6 : powI 10 6 = some (.int 1000000) := by unfold powI; rw [if_pos (shOk_lit 10 6 (by decide) (by decide))]; rfl
  have nn := fun τ => numbers_ap (s := [tp τ]) (i := i) (b := b) (o := o) (l := l) (by simp [Low])
  have s3 : smallI (3 - (k : Int)) = true := smallI_of (by omega) (by omega)
  have k3 : (3 - (k : Int)).toNat = 3 - k := by omega
  have kl : 3 - k ≤ LIM := le_LIM (by omega)
  have kl2 : (cutD N none (some ((k : Int) + 1))).length + (3 - k) ≤ LIM := le_LIM (by have := congrArg List.length hcut; simp at this; omega)
  simp [m__law_wrong, VM.run, g__law_wrong, startD, nn, p1, p2, e6, hput, hget, atI_nat', getN_cons, s3, k3, kl, kl2, hcut, R1, R2, R3, n1, p3, e12, lC2, R4, n2, p4, e10, lJ2, R5, n3, R6, R7, n4, n5, hp6, fLc_ap]
  rw [lcL_map (F := fun d => .bl (ifz 3 d))]
  rotate_left
  · intro d hd
    refine ⟨_, rfl, rfl, ?_⟩
    have hp : plv d = true := by
      simp at hd
      rcases hd with rfl | rfl | rfl | rfl | rfl | rfl | rfl | rfl <;> rfl
    simp [ifz_ap (lo _) hp]
  have mk1 := fun τ => city_ok (lo τ) (i := i) (b := b) (o := o) (l := l) (by omega) (by omega) (by omega) (by omega)
  have mk2 := fun τ => city_ok (lo τ) (i := (i : Int) + 1) (b := b) (o := o) (l := l) (by omega) (by omega) (by omega) (by omega)
  have q1 := fun τ => cityeqI (lo τ) (neg := false) (i := i) (b := b) (o := o) (l := l) (i' := i) (b' := b) (o' := o) (l' := l)
  have q2 := fun τ => cityeqI (lo τ) (neg := true) (i := i) (b := b) (o := o) (l := l) (i' := (i : Int) + 1) (b' := b) (o' := o) (l' := l)
  have q3 := fun (s : Sto) => eq_same (s := s) (d := .lst [.bl true, .bl true, .bl false, .bl false, .bl false, .bl false, .bl false, .bl false]) (n := 1) rfl (by decide)
  have z : ¬ ((i : Int) = i + 1) := by omega
  have ff : ∀ τ, fin false 1 (.bl true) [tp τ, .lst N] = some (.ok (.bl true) [tp τ]) := fun τ => fin_app (s := [tp τ]) (by simp [Low]) rfl
  simp [ifz, List.replicate, q3, getN_cons, mk1, mk2, q1, q2, z, ff]
  exact ⟨_, rfl⟩
end LW
set_option Elab.async false
set_option maxRecDepth 100000
set_option maxHeartbeats 4000000
set_option linter.all false
set_option autoImplicit false
namespace LW
open PySem L2 VM
/-! ### equal data are told to be the same -/
/-- data that _law_same takes -/
noncomputable def okS : Nat → D → Bool
  | _, .non => true
  | _, .bl _ => true
  | _, .int _ => true
  | _, .str _ => true
  | n + 1, .lst ds => decide (ds.length ≤ LIM) && ds.all (okS n)
  | n + 1, .tup ds => decide (ds.length ≤ LIM) && ds.all (okS n)
  | _, _ => false
theorem eqD_nil {s : Sto} : eqD s (.lst []) (.lst []) = some (.bl true) := nrf rfl
theorem same_seq {M : FM} {s : Sto} {ds : List D} (hs : Low s) (hl : ds.length ≤ LIM) (h : ∀ x ∈ ds, M s [x, x] = some (.ok (.bl true) s)) (C : List D → D) (hC : C = .lst ∨ C = .tup) : VM.run false 3 (g__law_same M) s [C ds, C ds] = some (.ok (.bl true) s) := by
  have c2 : smallI (ds.length : Int) = true := smallI_nat hl
  rcases hC with rfl | rfl
  · have hlc := lcL_none (gt := gNm 2) (ρ := [some (D.lst ds), some (D.lst ds), none]) (s := s) (fe := fC (.int 1)) (ft := fNotT (fTru (fCall 2 M (fCons (fOp ixD (fVar 0) (fVar 2)) (fCons (fOp ixD (fVar 1) (fVar 2)) fNil))))) (ds := rngD 0 ds.length) fun d hd => by
      obtain ⟨i, hi, rfl⟩ := mem_rngD hd
      refine ⟨_, rfl, ?_⟩
      simp [atI_nat', List.getElem?_eq_getElem hi, h _ (List.getElem_mem hi)]
    simp [VM.run, g__law_same, startD, fLc_ap, c2, hl, hlc, eqD_nil, finB hs]
  · have hlc := lcL_none (gt := gNm 2) (ρ := [some (D.tup ds), some (D.tup ds), none]) (s := s) (fe := fC (.int 1)) (ft := fNotT (fTru (fCall 2 M (fCons (fOp ixD (fVar 0) (fVar 2)) (fCons (fOp ixD (fVar 1) (fVar 2)) fNil))))) (ds := rngD 0 ds.length) fun d hd => by
      obtain ⟨i, hi, rfl⟩ := mem_rngD hd
      refine ⟨_, rfl, ?_⟩
      simp [atI_nat', List.getElem?_eq_getElem hi, h _ (List.getElem_mem hi)]
    simp [VM.run, g__law_same, startD, fLc_ap, c2, hl, hlc, eqD_nil, finB hs]
theorem same_refl {s : Sto} (hs : Low s) : ∀ (n : Nat) (d : D), okS n d = true → m__law_same (n + 1) s [d, d] = some (.ok (.bl true) s)
  | n, .non, _ => by
    show VM.run false 3 (g__law_same (m__law_same n)) s [.non, .non] = _
    generalize m__law_same n = M
    simp [VM.run, g__law_same, startD, finB hs]
  | n, .bl b, _ => by
    show VM.run false 3 (g__law_same (m__law_same n)) s [.bl b, .bl b] = _
    generalize m__law_same n = M
    simp [VM.run, g__law_same, startD, finB hs]
  | n, .int b, _ => by
    show VM.run false 3 (g__law_same (m__law_same n)) s [.int b, .int b] = _
    generalize m__law_same n = M
    simp [VM.run, g__law_same, startD, finB hs]
  | n, .str b, _ => by
    show VM.run false 3 (g__law_same (m__law_same n)) s [.str b, .str b] = _
    generalize m__law_same n = M
    simp [VM.run, g__law_same, startD, finB hs]
  | n + 1, .lst ds, h => by
    simp only [okS, Bool.and_eq_true, decide_eq_true_eq, List.all_eq_true] at h
    exact same_seq hs h.1 (fun x hx => same_refl hs n x (h.2 x hx)) _ (.inl rfl)
  | n + 1, .tup ds, h => by
    simp only [okS, Bool.and_eq_true, decide_eq_true_eq, List.all_eq_true] at h
    exact same_seq hs h.1 (fun x hx => same_refl hs n x (h.2 x hx)) _ (.inr rfl)
  | 0, .lst _, h => by simp [okS] at h
  | 0, .tup _, h => by simp [okS] at h
  | n, .own _, h => by cases n <;> simp [okS] at h
  | n, .lck _, h => by cases n <;> simp [okS] at h
  | n, .ins _ _ _, h => by cases n <;> simp [okS] at h
  | n, .dct _ _ _, h => by cases n <;> simp [okS] at h
  | n, .set _ _, h => by cases n <;> simp [okS] at h
  | n, .fn _, h => by cases n <;> simp [okS] at h
end LW
set_option Elab.async false
set_option maxRecDepth 100000
set_option maxHeartbeats 4000000
set_option linter.all false
set_option autoImplicit false
namespace LW
open PySem L2 VM
theorem start_ap (ns : List Int) : ∃ τ, m__law_start [] [.lck (ns.map D.int)] = some (.ok (.own 0) [tp τ]) := by
  refine ⟨⟨ns, 0, 0, 7, by decide, by decide, by decide, by decide⟩, ?_⟩
  simp [m__law_start, VM.run, g__law_start, startD, tp, fin, lowS, lows, low, lows_int]
theorem okS_succ : ∀ (m : Nat) (d : D), okS m d = true → okS (m + 1) d = true
  | m, .non, _ => rfl
  | m, .bl _, _ => rfl
  | m, .int _, _ => rfl
  | m, .str _, _ => rfl
  | m + 1, .lst ds, h => by
    simp only [okS, Bool.and_eq_true, decide_eq_true_eq, List.all_eq_true] at h ⊢
    exact ⟨h.1, fun x hx => okS_succ m x (h.2 x hx)⟩
  | m + 1, .tup ds, h => by
    simp only [okS, Bool.and_eq_true, decide_eq_true_eq, List.all_eq_true] at h ⊢
    exact ⟨h.1, fun x hx => okS_succ m x (h.2 x hx)⟩
  | 0, .lst _, h => by simp [okS] at h
  | 0, .tup _, h => by simp [okS] at h
  | n, .own _, h => by cases n <;> simp [okS] at h
  | n, .lck _, h => by cases n <;> simp [okS] at h
  | n, .ins _ _ _, h => by cases n <;> simp [okS] at h
  | n, .dct _ _ _, h => by cases n <;> simp [okS] at h
  | n, .set _ _, h => by cases n <;> simp [okS] at h
  | n, .fn _, h => by cases n <;> simp [okS] at h
theorem okS_mono {d : D} (h : okS 2 d = true) : okS 7 d = true := okS_succ _ _ (okS_succ _ _ (okS_succ _ _ (okS_succ _ _ (okS_succ _ _ h))))
def PLaw (ns : List Int) (i b o l n : Nat) (ρ : Rho) (s : Sto) : Prop := ∃ x : Option D, ρ = [some (.lck (ns.map .int)), some (.own 0), some (.lst [.int (i : Int), .int b, .int o, .int l]), some (cityD i b o l), some (.lst (allRows i b o)), some (.lst (allRows i b o)), x, none, none, none, none, none, none, none]
def PLaw2 (ns : List Int) (i b o l : Nat) (C : Cells) (J : Rows) (x : Option D) (n : Nat) (ρ : Rho) (s : Sto) : Prop := ∃ y : Option D, ρ = [some (.lck (ns.map .int)), some (.own 0), some (.lst [.int (i : Int), .int b, .int o, .int l]), some (cityD i b o l), some (.lst (allRows i b o)), some (.lst (allRows i b o)), x, some (planE C J), some (.tup (cbD C)), some (.lst (jtN J n)), y, none, none, none]
def sndD : D → D
  | .tup [_, p] => p
  | _ => .non
theorem jtN_mem {J : Rows} {d : D} : ∀ {n : Nat}, d ∈ jtN J n → ∃ a p : Int, d = .tup [.int a, .int p]
  | 0, h => nomatch h
  | n + 1, h => by
    rw [jtN] at h
    rcases List.mem_append.mp h with h | h
    · exact jtN_mem h
    · obtain ⟨p, _, rfl⟩ := List.mem_map.mp h
      exact ⟨_, _, rfl⟩
theorem jtN_snd (J : Rows) : ∀ n, (jtN J n).map sndD = (jpN J n).map .int
  | 0 => rfl
  | n + 1 => by
    rw [jtN, jpN, List.map_append, List.map_append, jtN_snd J n, List.map_map]
    rfl
theorem ge_nat {x : Int} (h : 0 ≤ x) : ∃ n : Nat, x = n := ⟨x.toNat, by omega⟩
theorem law_val (ns : List Int) (hns : ns.length ≤ 63) (hbits : ∀ z ∈ ns, Builtin.Int.intBits z ≤ 1048576) : ∃ s, m_law [] [.lck (ns.map D.int)] = some (.ok (.bl true) s) := by
  obtain ⟨τ0, e0⟩ := start_ap ns
  have pk : ∀ (τ : Tau) (m : Int), 0 < m → m < 1073741824 → m__law_pick [tp τ] [.own 0, .int m] = some (.ok (.int (dr τ m)) [tp (nx τ m)]) := fun τ m h1 h2 => pick_ap h1 h2 rfl
  have p1 := pk τ0 4 (by decide) (by decide)
  have p2 := pk (nx τ0 4) 4 (by decide) (by decide)
  have p3 := pk (nx (nx τ0 4) 4) 4 (by decide) (by decide)
  have p4 := pk (nx (nx (nx τ0 4) 4) 4) 4 (by decide) (by decide)
  obtain ⟨i, hi⟩ := ge_nat (dr_lo τ0 4)
  obtain ⟨b, hb⟩ := ge_nat (dr_lo (nx τ0 4) 4)
  obtain ⟨o, ho⟩ := ge_nat (dr_lo (nx (nx τ0 4) 4) 4)
  obtain ⟨l, hl⟩ := ge_nat (dr_lo (nx (nx (nx τ0 4) 4) 4) 4)
  have hi' : i ≤ 3 := by have := dr_hi τ0 (many := 4) (by decide); omega
  have hb' : b ≤ 3 := by have := dr_hi (nx τ0 4) (many := 4) (by decide); omega
  have ho' : o ≤ 3 := by have := dr_hi (nx (nx τ0 4) 4) (many := 4) (by decide); omega
  have hl' : l ≤ 3 := by have := dr_hi (nx (nx (nx τ0 4) 4) 4) (many := 4) (by decide); omega
  rw [hi] at p1
  rw [hb] at p2
  rw [ho] at p3
  rw [hl] at p4
  generalize nx (nx (nx (nx τ0 4) 4) 4) 4 = τ1 at *
  have lo : ∀ τ, Low [tp τ] := fun τ => by simp [Low]
  have l0 := lo τ1
  have mk := city_ok l0 (i := i) (b := b) (o := o) (l := l) (by omega) (by omega) (by omega) (by omega)
  have pins := pins_ap l0 (i := i) (b := b) (o := o) (l := l) (by omega) (by omega) (by omega)
  have pc := pinc_ap l0 (i := i) (b := b) (o := o) (l := l)
  have nu := numbers_ap l0 (i := i) (b := b) (o := o) (l := l)
  obtain ⟨N, hN⟩ : ∃ N : Nat, N = i + 4 * b + o := ⟨_, rfl⟩
  have hNI : (i : Int) + 4 * b + o = (N : Int) := by omega
  rw [hNI] at pc
  have plen : (allRows i b o).length = N := by rw [allRows_len, hN]
  have q1 := ne_same (s := [tp τ1]) (d := .tup [.int (i : Int), .int b, .int o, .int l]) (n := 1) rfl (by decide)
  have s1 : smallI (N : Int) = true := smallI_of (by omega) (by omega)
  have l1 : N ≤ LIM := le_LIM (by omega)
  simp [m_law, VM.run, g_law, startD, e0, fLc_ap, rngD_4, lcL_cons, lcL_nil, p1, p2, p3, p4, mk, pins, pc, nu, plen, q1, s1, l1]
  rw [lcL_rng (F := rowP i b)]
  rotate_left
  · intro p hp
    obtain ⟨n, q, t, k, h1, h2, h3, h4, h5, _⟩ := rowP_ap l0 (i := i) (b := b) (o := o) (l := l) (p := p) (by omega) (by omega) (by omega) (by omega)
    exact ⟨_, rfl, rfl, by simp [h1, h2, h3, h4, h5]⟩
  have hB : ∀ n, (rowsB i n).all (okS 1) = true := fun n => by
    induction n with
    | zero => rfl
    | succ n ih => rw [rowsB, List.all_append, ih]; simp [rowB, okS]
  have ok : okS 2 (.lst (allRows i b o)) = true := by
    rw [okS, plen, decide_eq_true l1]
    simp [allRows, hB, rowA, rowC, okS]
  have ok7 : okS 7 (.lst (allRows i b o)) = true := okS_mono ok
  have sm := same_refl l0 7 (.lst (allRows i b o)) ok7
  have re : (List.range N).map (rowP i b) = allRows i b o := by rw [hN, rows_eq]
  rw [re]
  simp [sm, fLc_ap, plen, s1, l1]
  let q : Nat → Int := fun p => if (p : Int) < i then (p : Int) else if (p : Int) < i + 4 * b then i + ((p : Int) - i) / 4 else i + b + p - i - 4 * b
  have dq : datD 1 (.lst ((List.range N).map fun p => .int (q p))) = true := by
    rw [datD, List.all_map, List.all_eq_true]
    exact fun _ _ => rfl
  have nq := ne_same (s := [tp τ1]) dq (by decide)
  rw [lcL_rng (F := fun p => .int (q p))]
  rotate_left
  · intro p hp
    obtain ⟨n, q', t, k, h1, h2, h3, h4, h5, rfl⟩ := rowP_ap l0 (i := i) (b := b) (o := o) (l := l) (p := p) (by omega) (by omega) (by omega) (by omega)
    exact ⟨_, rfl, rfl, by simp [h2, q]⟩
  simp [plen, s1, l1]
  rw [lcL_rng (F := fun p => .int (q p))]
  rotate_left
  · intro p hp
    exact ⟨_, rfl, rfl, by simp [place_ap l0, q]⟩
  have sb : smallI (b : Int) = true := smallI_of (by omega) (by omega)
  have so : smallI (o : Int) = true := smallI_of (by omega) (by omega)
  have sl : smallI (l : Int) = true := smallI_of (by omega) (by omega)
  have lo3 : o ≤ LIM := le_LIM (by omega)
  simp [nq, getN_cons, sb]
  have di : ∀ (n : Nat) (f : Nat → Int), datD 1 (.lst ((List.range n).map fun p => .int (f p))) = true := fun n f => by
    rw [datD, List.all_map, List.all_eq_true]
    exact fun _ _ => rfl
  have bp := fun (k j : Int) => blockpin_ap l0 (i := i) (b := b) (o := o) (l := l) (k := k) (j := j)
  have op := fun (j : Int) => outpin_ap l0 (i := i) (b := b) (o := o) (l := l) (j := j)
  generalize hX : forL _ _ _ _ _ _ = X
  obtain ⟨ρ', s', rfl, ⟨x, rfl⟩, rfl⟩ : ∃ ρ' s', X = some (.nx ρ' s') ∧ PLaw ns i b o l b ρ' s' ∧ s' = [tp τ1] := by
    subst hX
    refine forL_rngP (P := fun n ρ' s' => PLaw ns i b o l n ρ' s' ∧ s' = [tp τ1]) ⟨⟨none, rfl⟩, rfl⟩ ?_
    rintro k hk _ _ ⟨⟨x, rfl⟩, rfl⟩
    refine ⟨_, rfl, ?_⟩
    simp [fLc_ap]
    rw [lcL_rng (F := fun p => .int ((i : Int) + 4 * k + p))]
    rotate_left
    · intro p hp
      exact ⟨_, rfl, rfl, by simp [bp]⟩
    simp
    rw [lcL_rng (F := fun p => .int ((i : Int) + 4 * k + p))]
    rotate_left
    · intro p hp
      exact ⟨_, rfl, rfl, by simp [getN_cons, mulI]⟩
    have ne := ne_same (s := [tp τ1]) (di 4 fun p => (i : Int) + 4 * k + p) (by decide)
    simp [ne]
    exact ⟨_, rfl⟩
  simp [fLc_ap, getN_cons, so, lo3]
  rw [lcL_rng (F := fun p => .int ((i : Int) + 4 * b + p))]
  rotate_left
  · intro p hp
    exact ⟨_, rfl, rfl, by simp [op]⟩
  simp [getN_cons, so, lo3]
  rw [lcL_rng (F := fun p => .int ((i : Int) + 4 * b + p))]
  rotate_left
  · intro p hp
    exact ⟨_, rfl, rfl, by simp [getN_cons, mulI]⟩
  have ne := ne_same (s := [tp τ1]) (di o fun p => (i : Int) + 4 * b + p) (by decide)
  obtain ⟨C, J, τ2, dp, hC, hJ, vC, vJ⟩ := drawn_ap τ1 hi' hb' ho' hl'
  have sC : smallI (C.length : Int) = true := smallI_of (by omega) (by omega)
  have lb : b ≤ LIM := le_LIM (by omega)
  simp [ne, dp, fLc_ap, getN_cons, sb, lb]
  have eC : ((List.range b).filter fun k => !isNone ((C.map cellT).getD k .non)).map (fun k : Nat => D.int k) = cbD C := by rw [cbD, hC]
  rw [lcL_if (p := fun k => !isNone ((C.map cellT).getD k .non)) (F := fun k : Nat => .int k)]
  rotate_left
  · intro k hk
    have e1 := get_map (f := cellT) (xs := C) (k := k) (by omega)
    generalize (C.map cellT).getD k .non = v at e1 ⊢
    rw [List.getElem?_map] at e1
    exact ⟨_, rfl, by simp [atI_nat', e1], fun _ => by simp⟩
  rw [eC]
  have hm3 : ∀ ns ∈ J, ns.length ≤ 3 := fun ns hn => (vJ ns hn).2.2
  have sm9 : ∀ n, n ≤ l → sumN J n ≤ 9 := fun n hn => by
    have h1 := sumN_le hm3 n (by omega)
    omega
  simp [getN_cons, sl]
  generalize hX : forL _ _ _ _ _ _ = X
  obtain ⟨ρ', s', rfl, ⟨y, rfl⟩, rfl⟩ : ∃ ρ' s', X = some (.nx ρ' s') ∧ PLaw2 ns i b o l C J x l ρ' s' ∧ s' = [tp τ2] := by
    subst hX
    refine forL_rngP (P := fun n ρ' s' => PLaw2 ns i b o l C J x n ρ' s' ∧ s' = [tp τ2]) ⟨⟨none, rfl⟩, rfl⟩ ?_
    rintro k hk _ _ ⟨⟨y, rfl⟩, rfl⟩
    refine ⟨_, rfl, ?_⟩
    have e1 : (J.map rowT)[k]? = some (.tup ((J.getD k []).map .int)) := by
      rw [List.getElem?_map, List.getD_eq_getElem?_getD, List.getElem?_eq_getElem (by omega)]
      rfl
    rw [List.getElem?_map] at e1
    have h9 := sm9 (k + 1) hk
    rw [sumN] at h9
    have l8 : (J.getD k []).length ≤ LIM := le_LIM (by omega)
    have l9 : (jtN J k).length + (J.getD k []).length ≤ LIM := le_LIM (by rw [jtN_len]; omega)
    have ej : jtN J (k + 1) = jtN J k ++ ((J.getD k []).map D.int).map fun d => .tup [.int k, d] := by rw [jtN, List.map_map]; rfl
    generalize J.getD k [] = row at *
    simp [fLc_ap, getN_cons, atI_nat', e1, l8]
    rw [lcL_map (F := fun d => .tup [.int k, d])]
    rotate_left
    · intro d hd
      exact ⟨_, rfl, rfl, by simp⟩
    simp [l9]
    refine ⟨some (.int k), ?_⟩
    rw [ej]
    simp
  have l2 := lo τ2
  have v0 : VP C J := ⟨vC, fun ns hn => ⟨fun x hx => by have := (vJ ns hn).1 x hx; omega, (vJ ns hn).2.1, by have := (vJ ns hn).2.2; omega⟩, by omega, by omega⟩
  have mf := misfit_none l2 (C := C) (J := J) (i := i) (b := b) (o := o) (l := l) (by omega) (by omega) (fun ns hn x hx => by have := (vJ ns hn).1 x hx; omega)
  have cb := cellblocks_ap l2 (C := C) (J := J) (by omega)
  have dcb : datD 1 (.tup (cbD C)) = true := by
    rw [datD, cbD, List.all_map, List.all_eq_true]
    exact fun _ _ => rfl
  have ncb := ne_same (s := [tp τ2]) dcb (by decide)
  have jt := joints_ap l2 (C := C) (J := J) (m := 3) (by omega) hm3 (by omega)
  have djt : ∀ n, datD 2 (.lst (jtN J n)) = true := fun n => by
    rw [datD]
    induction n with
    | zero => rfl
    | succ n ih => rw [jtN, List.all_append, ih, List.all_map]; simp [datD]
  have njt := ne_same (s := [tp τ2]) (djt l) (by decide)
  have jd := joined_ap l2 (C := C) (J := J) (by omega) (by have := sm9 l (Nat.le_refl _); rw [hJ]; omega)
  rw [hJ] at jt jd
  have djd := ne_same (s := [tp τ2]) (d := .tup ((sortI (dedI (jpN J l))).map D.int)) (n := 1) (by rw [datD, List.all_map, List.all_eq_true]; exact fun _ _ => rfl) (by decide)
  have lj : (jtN J l).length ≤ LIM := le_LIM (by rw [jtN_len]; have := sm9 l (Nat.le_refl _); omega)
  simp [mf, cb, ncb, jt, njt, jd, fLc_ap, lj]
  rw [lcL_map (F := sndD)]
  rotate_left
  · intro d hd
    obtain ⟨a, p, rfl⟩ := jtN_mem hd
    exact ⟨_, rfl, rfl, by simp [sndD]⟩
  rw [jtN_snd]
  have l40 : (jpN J l).length ≤ 4000 := by rw [jpN_len]; have := sm9 l (Nat.le_refl _); omega
  have l64 : (dedI (jpN J l)).length < 64 := Nat.lt_of_le_of_lt (dedI_len _) (by rw [jpN_len]; have := sm9 l (Nat.le_refl _); omega)
  have br := bare_ap l2 (b := b) (l := l) (i := i) (o := o) (by omega) (by omega)
  have v1 : VP (List.replicate b none) (List.replicate l []) := ⟨fun x hx => by rw [List.eq_of_mem_replicate hx]; exact True.intro, fun x hx => by rw [List.eq_of_mem_replicate hx]; exact ⟨fun _ h => (nomatch h), List.Pairwise.nil, Nat.zero_le _⟩, by rw [List.length_replicate]; omega, by rw [List.length_replicate]; omega⟩
  have pm1 := plan_mk l2 v1
  have c1 : (List.replicate b (none : Option (Int × Int × Int))).map cellT = List.replicate b D.non := by
    rw [List.map_replicate]
    rfl
  have c2 : (List.replicate l ([] : List Int)).map rowT = List.replicate l (D.tup []) := by
    rw [List.map_replicate]
    rfl
  rw [c1, c2] at pm1
  have c3 : -1000 ≤ (b : Int) ∧ (b : Int) ≤ 1000 := by omega
  have c4 : -1000 ≤ (l : Int) ∧ (l : Int) ≤ 1000 := by omega
  have pe1 := planeqR l2 (C := List.replicate b none) (J := List.replicate l [])
  have rf := refused2_ok l2 (check_none l2 mf)
  have pm2 := plan_mk l2 v0
  have pe2 := planeqR l2 (C := C) (J := J)
  obtain ⟨τ3, ch⟩ := changes_ap τ2 hi' hb' ho' hl' hC hJ vC vJ
  obtain ⟨τ4, wr⟩ := wrong_ap τ3 hi' hb' ho' hl' hC hJ v0
  have ff : fin false 0 (.bl true) [tp τ4] = some (.ok (.bl true) []) := fin_app (s := []) (t := [tp τ4]) rfl rfl
  simp [l40, l64, srt_set, djd, br, pm1, c3, c4, pe1, rf, pm2, pe2, getN_cons, ch, wr, ff]
end LW

set_option Elab.async false
set_option maxRecDepth 100000
set_option maxHeartbeats 4000000
set_option linter.all false
set_option autoImplicit false
namespace LW
open PySem L2 VM VE
def top (i : Nat) : Stmt := PySem.Challenge.pw_citywright_k34_whole_cities_and_plans.main.body.getD i (.Pass ⟨0, 0, 0, 0⟩)
abbrev s__law_start : Stmt := top 23
abbrev N__law_start : List Str := ["script"]
abbrev s_is_from_zero : Stmt := top 6
abbrev N_is_from_zero : List Str := ["value", "limit"]
abbrev s_City_init : Stmt := inClass (top 7) 0
abbrev N_City_init : List Str := ["self", "ins", "blocks", "outs", "lanes", "numbers", "k"]
abbrev s__law_pins : Stmt := top 29
abbrev N__law_pins : List Str := ["city", "found", "k", "place"]
abbrev s_is_joined_row : Stmt := top 13
abbrev N_is_joined_row : List Str := ["value", "one", "k"]
abbrev s_is_block_cell : Stmt := top 12
abbrev N_is_block_cell : List Str := ["value"]
abbrev s_Plan_init : Stmt := inClass (top 14) 0
abbrev N_Plan_init : List Str := ["self", "cells", "joins", "word", "rows", "k"]
abbrev s__law_pick : Stmt := top 24
abbrev N__law_pick : List Str := ["state", "limit", "cell", "drawn"]
abbrev s_City_pin_count : Stmt := inClass (top 7) 3
abbrev N_City_pin_count : List Str := ["self"]
abbrev s__law_drawn : Stmt := top 28
abbrev N__law_drawn : List Str := ["state", "city", "cells", "k", "held", "joins", "j"]
abbrev s_Plan_eq : Stmt := inClass (top 14) 1
abbrev N_Plan_eq : List Str := ["self", "other"]
abbrev s_changed_plan : Stmt := top 21
abbrev N_changed_plan : List Str := ["plan", "blocks", "lanes", "cells", "joins", "k"]
abbrev s_plan_misfit : Stmt := top 15
abbrev N_plan_misfit : List Str := ["city", "plan", "row", "pin"]
abbrev s_check_plan : Stmt := top 16
abbrev N_check_plan : List Str := ["city", "plan", "fault"]
abbrev s__law_refused : Stmt := top 27
abbrev N__law_refused : List Str := ["kind", "parts", "e"]
abbrev s__law_changes : Stmt := top 30
abbrev N__law_changes : List Str := ["state", "city", "plan", "cells", "joins", "blocks", "lanes", "k", "later", "far", "bad", "faults", "one", "due"]
abbrev s_City_numbers : Stmt := inClass (top 7) 2
abbrev N_City_numbers : List Str := ["self"]
abbrev s_City_eq : Stmt := inClass (top 7) 1
abbrev N_City_eq : List Str := ["self", "other"]
abbrev s__law_wrong : Stmt := top 31
abbrev N__law_wrong : List Str := ["state", "city", "plan", "numbers", "k", "later", "odd", "size", "rows", "lanes", "told", "one"]
abbrev s_block_of : Stmt := top 8
abbrev N_block_of : List Str := ["city", "pin", "k"]
abbrev s_City_out_pin : Stmt := inClass (top 7) 4
abbrev N_City_out_pin : List Str := ["self", "j"]
abbrev s_pin_name : Stmt := top 11
abbrev N_pin_name : List Str := ["city", "pin", "k"]
abbrev s_position_of : Stmt := top 10
abbrev N_position_of : List Str := ["city", "pin", "k"]
abbrev s_is_telling : Stmt := top 9
abbrev N_is_telling : List Str := ["city", "pin"]
abbrev s__law_same : Stmt := top 25
abbrev N__law_same : List Str := ["told", "due", "k"]
abbrev s_cell_blocks : Stmt := top 18
abbrev N_cell_blocks : List Str := ["plan", "k"]
abbrev s_joints_of : Stmt := top 20
abbrev N_joints_of : List Str := ["plan", "lane", "pin"]
abbrev s_joined_pins : Stmt := top 19
abbrev N_joined_pins : List Str := ["plan", "row", "pin"]
abbrev s_bare_plan : Stmt := top 17
abbrev N_bare_plan : List Str := ["city"]
abbrev s__law_place_of : Stmt := top 26
abbrev N__law_place_of : List Str := ["city", "pin"]
abbrev s_City_block_pin : Stmt := inClass (top 7) 5
abbrev N_City_block_pin : List Str := ["self", "k", "place"]
abbrev s_law : Stmt := top 32
abbrev N_law : List Str := ["script", "state", "numbers", "city", "pins", "told", "k", "plan", "blocks", "joints", "lane", "pin", "place", "j"]
abbrev s_CityError_init : Stmt := inClass (top 1) 0
abbrev s_InvalidCity_init : Stmt := inClass (top 2) 0
abbrev s_InvalidPlan_init : Stmt := inClass (top 3) 0
structure Adr where
  C_CityError : Addr
  C_InvalidCity : Addr
  C_InvalidPlan : Addr
  C_City : Addr
  C_Plan : Addr
  e_CityError : Addr
  cc_CityError : Addr
  co_CityError : Addr
  e_InvalidCity : Addr
  cc_InvalidCity : Addr
  co_InvalidCity : Addr
  e_InvalidPlan : Addr
  cc_InvalidPlan : Addr
  co_InvalidPlan : Addr
  f__law_start : Addr
  fd__law_start : FuncData
  f_is_from_zero : Addr
  fd_is_from_zero : FuncData
  f_City_init : Addr
  fd_City_init : FuncData
  f__law_pins : Addr
  fd__law_pins : FuncData
  f_is_joined_row : Addr
  fd_is_joined_row : FuncData
  f_is_block_cell : Addr
  fd_is_block_cell : FuncData
  f_Plan_init : Addr
  fd_Plan_init : FuncData
  f__law_pick : Addr
  fd__law_pick : FuncData
  f_City_pin_count : Addr
  fd_City_pin_count : FuncData
  f__law_drawn : Addr
  fd__law_drawn : FuncData
  f_Plan_eq : Addr
  fd_Plan_eq : FuncData
  f_changed_plan : Addr
  fd_changed_plan : FuncData
  f_plan_misfit : Addr
  fd_plan_misfit : FuncData
  f_check_plan : Addr
  fd_check_plan : FuncData
  f__law_refused : Addr
  fd__law_refused : FuncData
  f__law_changes : Addr
  fd__law_changes : FuncData
  f_City_numbers : Addr
  fd_City_numbers : FuncData
  f_City_eq : Addr
  fd_City_eq : FuncData
  f__law_wrong : Addr
  fd__law_wrong : FuncData
  f_block_of : Addr
  fd_block_of : FuncData
  f_City_out_pin : Addr
  fd_City_out_pin : FuncData
  f_pin_name : Addr
  fd_pin_name : FuncData
  f_position_of : Addr
  fd_position_of : FuncData
  f_is_telling : Addr
  fd_is_telling : FuncData
  f__law_same : Addr
  fd__law_same : FuncData
  f_cell_blocks : Addr
  fd_cell_blocks : FuncData
  f_joints_of : Addr
  fd_joints_of : FuncData
  f_joined_pins : Addr
  fd_joined_pins : FuncData
  f_bare_plan : Addr
  fd_bare_plan : FuncData
  f__law_place_of : Addr
  fd__law_place_of : FuncData
  f_City_block_pin : Addr
  fd_City_block_pin : FuncData
  f_law : Addr
  fd_law : FuncData
  t_MOST_THINGS : Tok
def flds : List Str := [Str.ofString "blocks", Str.ofString "lanes", Str.ofString "joints", Str.ofString "ins", Str.ofString "outs", Str.ofString "cells", Str.ofString "joins", Str.ofString "flow", Str.ofString "city", Str.ofString "state", Str.ofString "broken", Str.ofString "times", Str.ofString "plan", Str.ofString "bits", Str.ofString "done", Str.ofString "offers", Str.ofString "readies", Str.ofString "places", Str.ofString "widths", Str.ofString "rooms", Str.ofString "inputs", Str.ofString "outputs", Str.ofString "order", Str.ofString "net", Str.ofString "rings", Str.ofString "inner", Str.ofString "outer", Str.ofString "names", Str.ofString "at", Str.ofString "maker", Str.ofString "queues", Str.ofString "held", Str.ofString "meaning", Str.ofString "rule", Str.ofString "name", Str.ofString "types", Str.ofString "channels", Str.ofString "workers", Str.ofString "thens", Str.ofString "first", Str.ofString "edges", Str.ofString "flops", Str.ofString "deep", Str.ofString "then", Str.ofString "nodes", Str.ofString "met", Str.ofString "tokens", Str.ofString "text", Str.ofString "period", Str.ofString "cell", Str.ofString "step", Str.ofString "setup", Str.ofString "tellers", Str.ofString "more", Str.ofString "rows", Str.ofString "body", Str.ofString "roads", Str.ofString "plans", Str.ofString "fabrics", Str.ofString "states", Str.ofString "last", Str.ofString "changed", Str.ofString "keeps", Str.ofString "stores", Str.ofString "steps", Str.ofString "takes", Str.ofString "puts"]
theorem flds_nd : flds.Nodup := by decide +kernel
def kt (K : PySem.W.Frag) (P : Program) (w : World) (a : Adr) : Kt := ⟨K, fun n => match n with
  | 0 => a.C_CityError
  | 10 => a.C_InvalidCity
  | 11 => a.C_InvalidPlan
  | 20 => a.C_City
  | 21 => a.C_Plan
  | _ => 0, flds, nms, flds_nd, P, w⟩
structure Txt (K : PySem.W.Frag) (P : Program) (mg : Str → Option Value) (a : Adr) : Prop where
  n_isinstance : mg "isinstance" = none
  n_int : mg "int" = none
  n_bool : mg "bool" = none
  n_range : mg "range" = none
  n_str : mg "str" = none
  n_tuple : mg "tuple" = none
  n_all : mg "all" = none
  n_len : mg "len" = none
  n_abs : mg "abs" = none
  n_sorted : mg "sorted" = none
  n_set : mg "set" = none
  n_max : mg "max" = none
  n_list : mg "list" = none
  n_min : mg "min" = none
  c_MOST_THINGS : mg "MOST_THINGS" = some (.int 200 a.t_MOST_THINGS)
  a_CityError : mg "CityError" = some (.ref a.C_CityError)
  a_InvalidCity : mg "InvalidCity" = some (.ref a.C_InvalidCity)
  a_InvalidPlan : mg "InvalidPlan" = some (.ref a.C_InvalidPlan)
  a_City : mg "City" = some (.ref a.C_City)
  a_Plan : mg "Plan" = some (.ref a.C_Plan)
  E_CityError : ErrI K P mg "CityError" "CityError.__init__" ⟨4, 17, 4, 21⟩ ⟨4, 23, 4, 28⟩ (defBody s_CityError_init) a.e_CityError a.C_CityError a.cc_CityError a.co_CityError
  sv_CityError : SupC K a.C_CityError a.C_CityError (.builtin "ValueError.__init__")
  E_InvalidCity : ErrI K P mg "InvalidCity" "InvalidCity.__init__" ⟨10, 17, 10, 21⟩ ⟨10, 23, 10, 28⟩ (defBody s_InvalidCity_init) a.e_InvalidCity a.C_InvalidCity a.cc_InvalidCity a.co_InvalidCity
  so_InvalidCity : SupC K a.C_InvalidCity a.C_InvalidCity (.ref a.e_CityError)
  sv_InvalidCity : SupC K a.C_InvalidCity a.C_CityError (.builtin "ValueError.__init__")
  E_InvalidPlan : ErrI K P mg "InvalidPlan" "InvalidPlan.__init__" ⟨15, 17, 15, 21⟩ ⟨15, 23, 15, 28⟩ (defBody s_InvalidPlan_init) a.e_InvalidPlan a.C_InvalidPlan a.cc_InvalidPlan a.co_InvalidPlan
  so_InvalidPlan : SupC K a.C_InvalidPlan a.C_InvalidPlan (.ref a.e_CityError)
  sv_InvalidPlan : SupC K a.C_InvalidPlan a.C_CityError (.builtin "ValueError.__init__")
  xb_InvalidCity : exmB K (.ref a.C_InvalidCity) [(a.C_CityError, false), (a.C_InvalidCity, true), (a.C_InvalidPlan, false)] = true
  xb_InvalidPlan : exmB K (.ref a.C_InvalidPlan) [(a.C_CityError, false), (a.C_InvalidCity, false), (a.C_InvalidPlan, true)] = true
  in_City : insB K a.C_City = true
  no_City : noB K a.C_City ["ins", "blocks", "outs", "lanes"] = true
  mk_City : Mk K a.C_City a.f_City_init
  in_Plan : insB K a.C_Plan = true
  no_Plan : noB K a.C_Plan ["cells", "joins"] = true
  mk_Plan : Mk K a.C_Plan a.f_Plan_init
  ty_City : tyB K a.C_City = true
  tb_City : tabB K a.C_City [(a.C_City, true), (a.C_Plan, false)] = true
  ty_Plan : tyB K a.C_Plan = true
  tb_Plan : tabB K a.C_Plan [(a.C_City, false), (a.C_Plan, true)] = true
  ne_City : PySem.W.findIn K (.ref a.C_City) "__ne__" = some (some (.builtin "object.__ne__"))
  mo_City : PySem.W.mroIn K a.C_City (.type "object") = some true
  ne_Plan : PySem.W.findIn K (.ref a.C_Plan) "__ne__" = some (some (.builtin "object.__ne__"))
  mo_Plan : PySem.W.mroIn K a.C_Plan (.type "object") = some true
  m__law_start : mg "_law_start" = some (.ref a.f__law_start)
  F__law_start : Fun K "_law_start" "_law_start" s__law_start a.f__law_start a.fd__law_start
  b__law_start : Binds K a.fd__law_start ["script"] []
  m_is_from_zero : mg "is_from_zero" = some (.ref a.f_is_from_zero)
  F_is_from_zero : Fun K "is_from_zero" "is_from_zero" s_is_from_zero a.f_is_from_zero a.fd_is_from_zero
  b_is_from_zero : Binds K a.fd_is_from_zero ["value", "limit"] []
  me_City_init : Meth K a.C_City "__init__" a.f_City_init
  F_City_init : Fun K "__init__" "City.__init__" s_City_init a.f_City_init a.fd_City_init
  b_City_init : Binds K a.fd_City_init ["self", "ins", "blocks", "outs", "lanes"] []
  m__law_pins : mg "_law_pins" = some (.ref a.f__law_pins)
  F__law_pins : Fun K "_law_pins" "_law_pins" s__law_pins a.f__law_pins a.fd__law_pins
  b__law_pins : Binds K a.fd__law_pins ["city"] []
  m_is_joined_row : mg "is_joined_row" = some (.ref a.f_is_joined_row)
  F_is_joined_row : Fun K "is_joined_row" "is_joined_row" s_is_joined_row a.f_is_joined_row a.fd_is_joined_row
  b_is_joined_row : Binds K a.fd_is_joined_row ["value"] []
  m_is_block_cell : mg "is_block_cell" = some (.ref a.f_is_block_cell)
  F_is_block_cell : Fun K "is_block_cell" "is_block_cell" s_is_block_cell a.f_is_block_cell a.fd_is_block_cell
  b_is_block_cell : Binds K a.fd_is_block_cell ["value"] []
  me_Plan_init : Meth K a.C_Plan "__init__" a.f_Plan_init
  F_Plan_init : Fun K "__init__" "Plan.__init__" s_Plan_init a.f_Plan_init a.fd_Plan_init
  b_Plan_init : Binds K a.fd_Plan_init ["self", "cells", "joins"] []
  m__law_pick : mg "_law_pick" = some (.ref a.f__law_pick)
  F__law_pick : Fun K "_law_pick" "_law_pick" s__law_pick a.f__law_pick a.fd__law_pick
  b__law_pick : Binds K a.fd__law_pick ["state", "limit"] []
  me_City_pin_count : Meth K a.C_City "pin_count" a.f_City_pin_count
  F_City_pin_count : Fun K "pin_count" "City.pin_count" s_City_pin_count a.f_City_pin_count a.fd_City_pin_count
  b_City_pin_count : Binds K a.fd_City_pin_count ["self"] []
  m__law_drawn : mg "_law_drawn" = some (.ref a.f__law_drawn)
  F__law_drawn : Fun K "_law_drawn" "_law_drawn" s__law_drawn a.f__law_drawn a.fd__law_drawn
  b__law_drawn : Binds K a.fd__law_drawn ["state", "city"] []
  me_Plan_eq : Meth K a.C_Plan "__eq__" a.f_Plan_eq
  F_Plan_eq : Fun K "__eq__" "Plan.__eq__" s_Plan_eq a.f_Plan_eq a.fd_Plan_eq
  b_Plan_eq : Binds K a.fd_Plan_eq ["self", "other"] []
  m_changed_plan : mg "changed_plan" = some (.ref a.f_changed_plan)
  F_changed_plan : Fun K "changed_plan" "changed_plan" s_changed_plan a.f_changed_plan a.fd_changed_plan
  b_changed_plan : Binds K a.fd_changed_plan ["plan", "blocks", "lanes"] []
  m_plan_misfit : mg "plan_misfit" = some (.ref a.f_plan_misfit)
  F_plan_misfit : Fun K "plan_misfit" "plan_misfit" s_plan_misfit a.f_plan_misfit a.fd_plan_misfit
  b_plan_misfit : Binds K a.fd_plan_misfit ["city", "plan"] []
  m_check_plan : mg "check_plan" = some (.ref a.f_check_plan)
  F_check_plan : Fun K "check_plan" "check_plan" s_check_plan a.f_check_plan a.fd_check_plan
  b_check_plan : Binds K a.fd_check_plan ["city", "plan"] []
  m__law_refused : mg "_law_refused" = some (.ref a.f__law_refused)
  F__law_refused : Fun K "_law_refused" "_law_refused" s__law_refused a.f__law_refused a.fd__law_refused
  b__law_refused : Binds K a.fd__law_refused ["kind", "parts"] []
  m__law_changes : mg "_law_changes" = some (.ref a.f__law_changes)
  F__law_changes : Fun K "_law_changes" "_law_changes" s__law_changes a.f__law_changes a.fd__law_changes
  b__law_changes : Binds K a.fd__law_changes ["state", "city", "plan"] []
  me_City_numbers : Meth K a.C_City "numbers" a.f_City_numbers
  F_City_numbers : Fun K "numbers" "City.numbers" s_City_numbers a.f_City_numbers a.fd_City_numbers
  b_City_numbers : Binds K a.fd_City_numbers ["self"] []
  me_City_eq : Meth K a.C_City "__eq__" a.f_City_eq
  F_City_eq : Fun K "__eq__" "City.__eq__" s_City_eq a.f_City_eq a.fd_City_eq
  b_City_eq : Binds K a.fd_City_eq ["self", "other"] []
  m__law_wrong : mg "_law_wrong" = some (.ref a.f__law_wrong)
  F__law_wrong : Fun K "_law_wrong" "_law_wrong" s__law_wrong a.f__law_wrong a.fd__law_wrong
  b__law_wrong : Binds K a.fd__law_wrong ["state", "city", "plan"] []
  m_block_of : mg "block_of" = some (.ref a.f_block_of)
  F_block_of : Fun K "block_of" "block_of" s_block_of a.f_block_of a.fd_block_of
  b_block_of : Binds K a.fd_block_of ["city", "pin"] []
  me_City_out_pin : Meth K a.C_City "out_pin" a.f_City_out_pin
  F_City_out_pin : Fun K "out_pin" "City.out_pin" s_City_out_pin a.f_City_out_pin a.fd_City_out_pin
  b_City_out_pin : Binds K a.fd_City_out_pin ["self", "j"] []
  m_pin_name : mg "pin_name" = some (.ref a.f_pin_name)
  F_pin_name : Fun K "pin_name" "pin_name" s_pin_name a.f_pin_name a.fd_pin_name
  b_pin_name : Binds K a.fd_pin_name ["city", "pin"] []
  m_position_of : mg "position_of" = some (.ref a.f_position_of)
  F_position_of : Fun K "position_of" "position_of" s_position_of a.f_position_of a.fd_position_of
  b_position_of : Binds K a.fd_position_of ["city", "pin"] []
  m_is_telling : mg "is_telling" = some (.ref a.f_is_telling)
  F_is_telling : Fun K "is_telling" "is_telling" s_is_telling a.f_is_telling a.fd_is_telling
  b_is_telling : Binds K a.fd_is_telling ["city", "pin"] []
  m__law_same : mg "_law_same" = some (.ref a.f__law_same)
  F__law_same : Fun K "_law_same" "_law_same" s__law_same a.f__law_same a.fd__law_same
  b__law_same : Binds K a.fd__law_same ["told", "due"] []
  m_cell_blocks : mg "cell_blocks" = some (.ref a.f_cell_blocks)
  F_cell_blocks : Fun K "cell_blocks" "cell_blocks" s_cell_blocks a.f_cell_blocks a.fd_cell_blocks
  b_cell_blocks : Binds K a.fd_cell_blocks ["plan"] []
  m_joints_of : mg "joints_of" = some (.ref a.f_joints_of)
  F_joints_of : Fun K "joints_of" "joints_of" s_joints_of a.f_joints_of a.fd_joints_of
  b_joints_of : Binds K a.fd_joints_of ["plan"] []
  m_joined_pins : mg "joined_pins" = some (.ref a.f_joined_pins)
  F_joined_pins : Fun K "joined_pins" "joined_pins" s_joined_pins a.f_joined_pins a.fd_joined_pins
  b_joined_pins : Binds K a.fd_joined_pins ["plan"] []
  m_bare_plan : mg "bare_plan" = some (.ref a.f_bare_plan)
  F_bare_plan : Fun K "bare_plan" "bare_plan" s_bare_plan a.f_bare_plan a.fd_bare_plan
  b_bare_plan : Binds K a.fd_bare_plan ["city"] []
  m__law_place_of : mg "_law_place_of" = some (.ref a.f__law_place_of)
  F__law_place_of : Fun K "_law_place_of" "_law_place_of" s__law_place_of a.f__law_place_of a.fd__law_place_of
  b__law_place_of : Binds K a.fd__law_place_of ["city", "pin"] []
  me_City_block_pin : Meth K a.C_City "block_pin" a.f_City_block_pin
  F_City_block_pin : Fun K "block_pin" "City.block_pin" s_City_block_pin a.f_City_block_pin a.fd_City_block_pin
  b_City_block_pin : Binds K a.fd_City_block_pin ["self", "k", "place"] []
  m_law : mg "law" = some (.ref a.f_law)
  F_law : Fun K "law" "law" s_law a.f_law a.fd_law
  b_law : Binds K a.fd_law ["script"] []
section
variable {P : Program} {w : World} {K : PySem.W.Frag} {mg : Str → Option Value} {base : Heap} {a : Adr}
theorem Txt.tab_City (Tx : Txt K P mg a) : ∀ q ∈ ([(20, true), (21, false)] : List (Nat × Bool)), PySem.W.kitOne K (.ref ((kt K P w a).ad q.1)) (.ref a.C_City) = some q.2 := tabB_ok Tx.tb_City
theorem Txt.tab_Plan (Tx : Txt K P mg a) : ∀ q ∈ ([(20, false), (21, true)] : List (Nat × Bool)), PySem.W.kitOne K (.ref ((kt K P w a).ad q.1)) (.ref a.C_Plan) = some q.2 := tabB_ok Tx.tb_Plan
theorem Txt.ex_InvalidCity (Tx : Txt K P mg a) : ∀ q ∈ ([(0, false), (10, true), (11, false)] : List (Nat × Bool)), PySem.W.exmOne K (.ref ((kt K P w a).ad q.1)) (.ref a.C_InvalidCity) = some q.2 := exmB_ok Tx.xb_InvalidCity
theorem Txt.ex_InvalidPlan (Tx : Txt K P mg a) : ∀ q ∈ ([(0, false), (10, false), (11, true)] : List (Nat × Bool)), PySem.W.exmOne K (.ref ((kt K P w a).ad q.1)) (.ref a.C_InvalidPlan) = some q.2 := exmB_ok Tx.xb_InvalidPlan
theorem Txt.na_City_ins (Tx : Txt K P mg a) : NoAttr K a.C_City "ins" := noB_ok Tx.no_City _ (by decide +kernel)
theorem Txt.na_City_blocks (Tx : Txt K P mg a) : NoAttr K a.C_City "blocks" := noB_ok Tx.no_City _ (by decide +kernel)
theorem Txt.na_City_outs (Tx : Txt K P mg a) : NoAttr K a.C_City "outs" := noB_ok Tx.no_City _ (by decide +kernel)
theorem Txt.na_City_lanes (Tx : Txt K P mg a) : NoAttr K a.C_City "lanes" := noB_ok Tx.no_City _ (by decide +kernel)
theorem Txt.na_Plan_cells (Tx : Txt K P mg a) : NoAttr K a.C_Plan "cells" := noB_ok Tx.no_Plan _ (by decide +kernel)
theorem Txt.na_Plan_joins (Tx : Txt K P mg a) : NoAttr K a.C_Plan "joins" := noB_ok Tx.no_Plan _ (by decide +kernel)
theorem Txt.xf_all (Tx : Txt K P mg a) {tab : List (Nat × Bool)} (c : Nat) (h : (c, true) ∈ tab) (hs : tab.all (fun q => decide (q.1 ∈ [0, 10, 11])) = true := by decide) : XfOk K ((kt K P w a).ad c) := by
  have h2 := of_decide_eq_true (List.all_eq_true.mp hs _ h)
  simp only [List.mem_cons, List.not_mem_nil, or_false] at h2
  rcases h2 with rfl | rfl | rfl
  · exact Tx.E_CityError.xf
  · exact Tx.E_InvalidCity.xf
  · exact Tx.E_InvalidPlan.xf
theorem er_CityError (Tx : Txt K P mg a) : ErrOk P w K mg base 2 "CityError" a.C_CityError "CityError" := err_base Tx.E_CityError rfl (fun L => ⟨_, rfl⟩) Tx.sv_CityError
theorem er_InvalidCity (Tx : Txt K P mg a) : ErrOk P w K mg base 2 "InvalidCity" a.C_InvalidCity "InvalidCity" := err_own Tx.E_CityError Tx.E_InvalidCity rfl (fun L => ⟨_, rfl⟩) rfl (fun L => ⟨_, rfl⟩) Tx.so_InvalidCity Tx.sv_InvalidCity
theorem er_InvalidPlan (Tx : Txt K P mg a) : ErrOk P w K mg base 2 "InvalidPlan" a.C_InvalidPlan "InvalidPlan" := err_own Tx.E_CityError Tx.E_InvalidPlan rfl (fun L => ⟨_, rfl⟩) rfl (fun L => ⟨_, rfl⟩) Tx.so_InvalidPlan Tx.sv_InvalidPlan
theorem sc__law_start : FnScope N__law_start ["script"] (defScope s__law_start) := ⟨rfl, rfl, rfl, by decide +kernel, rfl, by decide +kernel, by decide +kernel⟩
theorem ok__law_start (Tx : Txt K P mg a) : FnOk P w K mg base (L2.CX P w) 1 a.f__law_start a.fd__law_start ["script"] (spF (kt K P w a) 1 m__law_start) := by
  have ND := sc__law_start.nd
  exact fn_ok (T := kt K P w a) (k := 0) true Tx.F__law_start sc__law_start (fun cdv A outer s H E hr tk po => dss_one (ds_ret (de_own (da_cons (de_var 0) (da_cons (de_int) (da_cons (de_int) (da_cons (de_int) (da_nil)))))))) (fun _ _ _ h => h)
theorem sc_is_from_zero : FnScope N_is_from_zero ["value", "limit"] (defScope s_is_from_zero) := ⟨rfl, rfl, rfl, by decide +kernel, rfl, by decide +kernel, by decide +kernel⟩
theorem ok_is_from_zero (Tx : Txt K P mg a) : FnOk P w K mg base (L2.CX P w) 1 a.f_is_from_zero a.fd_is_from_zero ["value", "limit"] (spF (kt K P w a) 2 m_is_from_zero) := by
  have ND := sc_is_from_zero.nd
  exact fn_ok (T := kt K P w a) (k := 0) false Tx.F_is_from_zero sc_is_from_zero (fun cdv A outer s H E hr tk po => dss_one (ds_ret (de_and (de_isi TN.int (de_var 0) Tx.n_isinstance Tx.n_int) (de_and (de_not (de_isi TN.bool (de_var 0) Tx.n_isinstance Tx.n_bool)) (de_one (de_chain op_le ops_le op_lt ops_lt (de_int) (de_var 0) (de_var 1))))))) (fun _ _ _ h => h)
theorem sc_City_init : FnScope N_City_init ["self", "ins", "blocks", "outs", "lanes"] (defScope s_City_init) := ⟨rfl, rfl, rfl, by decide +kernel, rfl, by decide +kernel, by decide +kernel⟩
theorem ok_City_init (Tx : Txt K P mg a) : FnOk P w K mg base (L2.CX P w) 4 a.f_City_init a.fd_City_init ["self", "ins", "blocks", "outs", "lanes"] (spF (kt K P w a) 5 m_City_init) := by
  have G_is_from_zero := ok_is_from_zero (P := P) (w := w) (base := base) Tx
  have ND := sc_City_init.nd
  exact fn_ok (T := kt K P w a) (k := 3) false Tx.F_City_init sc_City_init (fun cdv A outer s H E hr tk po => dss_cons (ds_set 5 ND (de_tup (da_cons (de_var 1) (da_cons (de_var 2) (da_cons (de_var 3) (da_cons (de_var 4) (da_nil))))))) (dss_cons (ds_for po rfl (di_range1 (de_int) Tx.n_range) (dg_name 6 ND) (dss_one (ds_if (dt_not (dt_val (de_call tk G_is_from_zero (hr.mono (by decide)) Tx.m_is_from_zero Tx.F_is_from_zero.kp Tx.b_is_from_zero (da_cons (de_ix (de_var 5) (de_var 6)) (da_cons (de_bin op_add4 ops_add (de_glob (v := .int 200) (d := .int 200) Tx.c_MOST_THINGS ⟨_, rfl⟩ (fun _ _ => rfl)) (de_int)) (da_nil)))))) (dss_one (ds_raise 10 rfl tk (er_InvalidCity Tx) (hr.mono (by decide)) (de_var 6))) (dss_nil)))) (dss_cons (ds_fld 20 3 (by decide : 3 < 67) Tx.na_City_ins (de_var 0) (de_var 1)) (dss_cons (ds_fld 20 0 (by decide : 0 < 67) Tx.na_City_blocks (de_var 0) (de_var 2)) (dss_cons (ds_fld 20 4 (by decide : 4 < 67) Tx.na_City_outs (de_var 0) (de_var 3)) (dss_one (ds_fld 20 1 (by decide : 1 < 67) Tx.na_City_lanes (de_var 0) (de_var 4)))))))) (fun _ _ _ h => h)
theorem sc__law_pins : FnScope N__law_pins ["city"] (defScope s__law_pins) := ⟨rfl, rfl, rfl, by decide +kernel, rfl, by decide +kernel, by decide +kernel⟩
theorem ok__law_pins (Tx : Txt K P mg a) : FnOk P w K mg base (L2.CX P w) 1 a.f__law_pins a.fd__law_pins ["city"] (spF (kt K P w a) 1 m__law_pins) := by
  have ND := sc__law_pins.nd
  exact fn_ok (T := kt K P w a) (k := 0) false Tx.F__law_pins sc__law_pins (fun cdv A outer s H E hr tk po => dss_cons (ds_setLc (own := [("k", 2)]) 1 rfl ND (di_range1 (de_fld 3 (by decide : 3 < 67) (de_var 0)) Tx.n_range) (blkOk_by (by kernel_rfl)) (by decide) (fun b => dg_name 2 ND) (fun b => dts_nil) (fun b => de_tup (da_cons (de_bin op_add4 ops_add (de_str) (de_callTy call_str_int cs_str Tx.n_str (by decide +kernel) (da_cons (de_var 2) (da_nil)))) (da_cons (de_var 2) (da_cons (de_bl) (da_cons (de_non) (da_nil)))))) (sw_true rfl rfl rfl (by decide +kernel))) (dss_cons (ds_for po rfl (di_range1 (de_fld 0 (by decide : 0 < 67) (de_var 0)) Tx.n_range) (dg_name 2 ND) (dss_one (ds_set 1 ND (de_bin op_add4 ops_add (de_var 1) (de_lc (own := [("place", 3)]) rfl ND (di_range1 (de_int) Tx.n_range) (blkOk_by (by kernel_rfl)) (by decide) (fun b => dg_name 3 ND) (fun b => dts_nil) (fun b => de_tup (da_cons (de_bin op_add4 ops_add (de_bin op_add4 ops_add (de_bin op_add4 ops_add (de_str) (de_callTy call_str_int cs_str Tx.n_str (by decide +kernel) (da_cons (de_var 2) (da_nil)))) (de_str)) (de_callTy call_str_int cs_str Tx.n_str (by decide +kernel) (da_cons (de_var 3) (da_nil)))) (da_cons (de_bin op_add4 ops_add (de_fld 3 (by decide : 3 < 67) (de_var 0)) (de_var 2)) (da_cons (de_cmp (op_eqU hr.units) ops_eq (de_var 3) (de_int) (nomark _)) (da_cons (de_var 2) (da_nil))))))))))) (dss_one (ds_ret (de_bin op_add4 ops_add (de_var 1) (de_lc (own := [("k", 2)]) rfl ND (di_range1 (de_fld 4 (by decide : 4 < 67) (de_var 0)) Tx.n_range) (blkOk_by (by kernel_rfl)) (by decide) (fun b => dg_name 2 ND) (fun b => dts_nil) (fun b => de_tup (da_cons (de_bin op_add4 ops_add (de_str) (de_callTy call_str_int cs_str Tx.n_str (by decide +kernel) (da_cons (de_var 2) (da_nil)))) (da_cons (de_bin op_add4 ops_add (de_bin op_add4 ops_add (de_fld 3 (by decide : 3 < 67) (de_var 0)) (de_fld 0 (by decide : 0 < 67) (de_var 0))) (de_var 2)) (da_cons (de_bl) (da_cons (de_non) (da_nil)))))))))))) (fun _ _ _ h => h)
theorem sc_is_joined_row : FnScope N_is_joined_row ["value"] (defScope s_is_joined_row) := ⟨rfl, rfl, rfl, by decide +kernel, rfl, by decide +kernel, by decide +kernel⟩
theorem ok_is_joined_row (Tx : Txt K P mg a) : FnOk P w K mg base (L2.CX P w) 3 a.f_is_joined_row a.fd_is_joined_row ["value"] (spF (kt K P w a) 1 m_is_joined_row) := by
  have G_is_from_zero := ok_is_from_zero (P := P) (w := w) (base := base) Tx
  have ND := sc_is_joined_row.nd
  exact fn_ok (T := kt K P w a) (k := 2) false Tx.F_is_joined_row sc_is_joined_row (fun cdv A outer s H E hr tk po => dss_cons (ds_if (DW.t (dw_or (dt_not (dt_val (de_isi TN.tuple (de_var 0) Tx.n_isinstance Tx.n_tuple))) (dw_or1 (dt_not (dt_val (de_callB (cr_all rfl) cs_all Tx.n_all (by decide +kernel) (da_cons (de_lc (own := [("one", 1)]) rfl ND (di_any (de_var 0)) (blkOk_by (by kernel_rfl)) (by decide) (fun b => dg_name 1 ND) (fun b => dts_nil) (fun b => de_call VM.takes0 G_is_from_zero (hr.mono (by decide)) Tx.m_is_from_zero Tx.F_is_from_zero.kp Tx.b_is_from_zero (da_cons (de_var 1) (da_cons (de_bin op_pow ops_pow (de_int) (de_int)) (da_nil))))) (da_nil)))))))) (dss_one (ds_ret (de_bl))) (dss_nil)) (dss_one (ds_ret (de_callB (cr_all rfl) cs_all Tx.n_all (by decide +kernel) (da_cons (de_lc (own := [("k", 2)]) rfl ND (di_range2 (de_int) (de_callB call_len cs_len Tx.n_len PySem.boot_len (da_cons (de_var 0) (da_nil))) Tx.n_range) (blkOk_by (by kernel_rfl)) (by decide) (fun b => dg_name 2 ND) (fun b => dts_nil) (fun b => de_cmp op_lt ops_lt (de_ix (de_var 0) (de_bin op_sub ops_sub (de_var 2) (de_int))) (de_ix (de_var 0) (de_var 2)) (nomark _))) (da_nil)))))) (fun _ _ _ h => h)
theorem sc_is_block_cell : FnScope N_is_block_cell ["value"] (defScope s_is_block_cell) := ⟨rfl, rfl, rfl, by decide +kernel, rfl, by decide +kernel, by decide +kernel⟩
theorem ok_is_block_cell (Tx : Txt K P mg a) : FnOk P w K mg base (L2.CX P w) 3 a.f_is_block_cell a.fd_is_block_cell ["value"] (spF (kt K P w a) 1 m_is_block_cell) := by
  have G_is_from_zero := ok_is_from_zero (P := P) (w := w) (base := base) Tx
  have ND := sc_is_block_cell.nd
  exact fn_ok (T := kt K P w a) (k := 2) false Tx.F_is_block_cell sc_is_block_cell (fun cdv A outer s H E hr tk po => dss_cons (ds_if (DW.t (dw_or (dt_not (dt_val (de_isi TN.tuple (de_var 0) Tx.n_isinstance Tx.n_tuple))) (dw_or (dt_cmp (op_neU hr.units) ops_ne (de_callB call_len cs_len Tx.n_len PySem.boot_len (da_cons (de_var 0) (da_nil))) (de_int) (nomark _)) (dw_or1 (dt_not (dt_val (de_call tk G_is_from_zero (hr.mono (by decide)) Tx.m_is_from_zero Tx.F_is_from_zero.kp Tx.b_is_from_zero (da_cons (de_ix (de_var 0) (de_int)) (da_cons (de_int) (da_nil)))))))))) (dss_one (ds_ret (de_bl))) (dss_nil)) (dss_one (ds_ret (de_and (de_call tk G_is_from_zero (hr.mono (by decide)) Tx.m_is_from_zero Tx.F_is_from_zero.kp Tx.b_is_from_zero (da_cons (de_ix (de_var 0) (de_int)) (da_cons (de_int) (da_nil)))) (de_one (de_call tk G_is_from_zero (hr.mono (by decide)) Tx.m_is_from_zero Tx.F_is_from_zero.kp Tx.b_is_from_zero (da_cons (de_ix (de_var 0) (de_int)) (da_cons (de_bin op_add4 ops_add (de_int) (de_ix (de_var 0) (de_int))) (da_nil))))))))) (fun _ _ _ h => h)
theorem sc_Plan_init : FnScope N_Plan_init ["self", "cells", "joins"] (defScope s_Plan_init) := ⟨rfl, rfl, rfl, by decide +kernel, rfl, by decide +kernel, by decide +kernel⟩
theorem ok_Plan_init (Tx : Txt K P mg a) : FnOk P w K mg base (L2.CX P w) 5 a.f_Plan_init a.fd_Plan_init ["self", "cells", "joins"] (spF (kt K P w a) 3 m_Plan_init) := by
  have G_is_block_cell := ok_is_block_cell (P := P) (w := w) (base := base) Tx
  have G_is_joined_row := ok_is_joined_row (P := P) (w := w) (base := base) Tx
  have ND := sc_Plan_init.nd
  exact fn_ok (T := kt K P w a) (k := 4) false Tx.F_Plan_init sc_Plan_init (fun cdv A outer s H E hr tk po => dss_cons (ds_for po rfl (di_any (de_tup (da_cons (de_tup (da_cons (de_str) (da_cons (de_var 1) (da_nil)))) (da_cons (de_tup (da_cons (de_str) (da_cons (de_var 2) (da_nil)))) (da_nil))))) (dg_tup rfl (dgs_cons (dg_name 3 ND) (dgs_cons (dg_name 4 ND) (dgs_nil)))) (dss_one (ds_if (dt_not (dt_val (de_isi TN.tuple (de_var 4) Tx.n_isinstance Tx.n_tuple))) (dss_one (ds_raise 11 rfl tk (er_InvalidPlan Tx) (hr.mono (by decide)) (de_tup (da_cons (de_var 3) (da_cons (de_non) (da_nil)))))) (dss_nil)))) (dss_cons (ds_for po rfl (di_range1 (de_callB call_len cs_len Tx.n_len PySem.boot_len (da_cons (de_var 1) (da_nil))) Tx.n_range) (dg_name 5 ND) (dss_one (ds_if (DW.t (dw_and (dt_cmp op_notN ops_isNN (de_ix (de_var 1) (de_var 5)) (de_non) (nomark _)) (dw_and1 (dt_not (dt_val (de_call tk G_is_block_cell (hr.mono (by decide)) Tx.m_is_block_cell Tx.F_is_block_cell.kp Tx.b_is_block_cell (da_cons (de_ix (de_var 1) (de_var 5)) (da_nil)))))))) (dss_one (ds_raise 11 rfl tk (er_InvalidPlan Tx) (hr.mono (by decide)) (de_tup (da_cons (de_str) (da_cons (de_var 5) (da_nil)))))) (dss_nil)))) (dss_cons (ds_for po rfl (di_range1 (de_callB call_len cs_len Tx.n_len PySem.boot_len (da_cons (de_var 2) (da_nil))) Tx.n_range) (dg_name 5 ND) (dss_one (ds_if (dt_not (dt_val (de_call tk G_is_joined_row (hr.mono (by decide)) Tx.m_is_joined_row Tx.F_is_joined_row.kp Tx.b_is_joined_row (da_cons (de_ix (de_var 2) (de_var 5)) (da_nil))))) (dss_one (ds_raise 11 rfl tk (er_InvalidPlan Tx) (hr.mono (by decide)) (de_tup (da_cons (de_str) (da_cons (de_var 5) (da_nil)))))) (dss_nil)))) (dss_cons (ds_fld 21 5 (by decide : 5 < 67) Tx.na_Plan_cells (de_var 0) (de_var 1)) (dss_one (ds_fld 21 6 (by decide : 6 < 67) Tx.na_Plan_joins (de_var 0) (de_var 2))))))) (fun _ _ _ h => h)
theorem sc__law_pick : FnScope N__law_pick ["state", "limit"] (defScope s__law_pick) := ⟨rfl, rfl, rfl, by decide +kernel, rfl, by decide +kernel, by decide +kernel⟩
theorem ok__law_pick (Tx : Txt K P mg a) : FnOk P w K mg base (L2.CX P w) 1 a.f__law_pick a.fd__law_pick ["state", "limit"] (spF (kt K P w a) 2 m__law_pick) := by
  have ND := sc__law_pick.nd
  exact fn_ok (T := kt K P w a) (k := 0) false Tx.F__law_pick sc__law_pick (fun cdv A outer s H E hr tk po => dss_cons (ds_if (DW.t (dw_and (dt_cmp (op_eqU hr.units) ops_eq (de_ix (de_var 0) (de_int)) (de_int) (nomark _)) (dw_and1 (dt_cmp op_lt ops_lt (de_ix (de_var 0) (de_int)) (de_callB call_len cs_len Tx.n_len PySem.boot_len (da_cons (de_ix (de_var 0) (de_int)) (da_nil))) (nomark _))))) (dss_cons (ds_set 2 ND (de_callB call_abs cs_abs Tx.n_abs PyProof.Rows.boot_abs (da_cons (de_ix (de_ix (de_var 0) (de_int)) (de_ix (de_var 0) (de_int))) (da_nil)))) (dss_cons (ds_sub (de_bin op_add4 ops_add (de_ix (de_var 0) (de_int)) (de_int)) (de_var 0) (de_int)) (dss_one (ds_if (dt_cmp op_ge ops_ge (de_var 2) (de_bin op_pow ops_pow (de_int) (de_int)) (nomark _)) (dss_one (ds_sub (de_var 2) (de_var 0) (de_int))) (dss_one (ds_sub (de_bin op_add4 ops_add (de_bin op_mod ops_mod (de_callTy call_int1 cs_int Tx.n_int PyProof.Rows.boot_int (da_cons (de_bin op_add4 ops_add (de_bin op_mulU ops_mulU (de_ix (de_var 0) (de_int)) (de_int)) (de_var 2)) (da_nil))) (de_int)) (de_int)) (de_var 0) (de_int))))))) (dss_nil)) (dss_cons (ds_if (dt_cmp op_gt ops_gt (de_ix (de_var 0) (de_int)) (de_int) (nomark _)) (dss_cons (ds_set 3 ND (de_bin op_mod ops_mod (de_callTy call_int1 cs_int Tx.n_int PyProof.Rows.boot_int (da_cons (de_ix (de_var 0) (de_int)) (da_nil))) (de_var 1))) (dss_cons (ds_sub (de_bin op_fdiv ops_fdiv (de_ix (de_var 0) (de_int)) (de_var 1)) (de_var 0) (de_int)) (dss_one (ds_ret (de_var 3))))) (dss_nil)) (dss_cons (ds_sub (de_bin op_mod ops_mod (de_callTy call_int1 cs_int Tx.n_int PyProof.Rows.boot_int (da_cons (de_bin op_mulU ops_mulU (de_ix (de_var 0) (de_int)) (de_int)) (da_nil))) (de_int)) (de_var 0) (de_int)) (dss_one (ds_ret (de_bin op_mod ops_mod (de_callTy call_int1 cs_int Tx.n_int PyProof.Rows.boot_int (da_cons (de_bin op_add4 ops_add (de_bin op_fdiv ops_fdiv (de_ix (de_var 0) (de_int)) (de_int)) (de_bin op_mod ops_mod (de_callTy call_int1 cs_int Tx.n_int PyProof.Rows.boot_int (da_cons (de_bin op_mulU ops_mulU (de_ix (de_var 0) (de_int)) (de_ix (de_var 0) (de_int))) (da_nil))) (de_int))) (da_nil))) (de_var 1))))))) (fun _ _ _ h => h)
theorem sc_City_pin_count : FnScope N_City_pin_count ["self"] (defScope s_City_pin_count) := ⟨rfl, rfl, rfl, by decide +kernel, rfl, by decide +kernel, by decide +kernel⟩
theorem ok_City_pin_count (Tx : Txt K P mg a) : FnOk P w K mg base (L2.CX P w) 1 a.f_City_pin_count a.fd_City_pin_count ["self"] (spF (kt K P w a) 1 m_City_pin_count) := by
  have ND := sc_City_pin_count.nd
  exact fn_ok (T := kt K P w a) (k := 0) false Tx.F_City_pin_count sc_City_pin_count (fun cdv A outer s H E hr tk po => dss_one (ds_ret (de_bin op_add4 ops_add (de_bin op_add4 ops_add (de_fld 3 (by decide : 3 < 67) (de_var 0)) (de_bin op_mulU ops_mulU (de_int) (de_fld 0 (by decide : 0 < 67) (de_var 0)))) (de_fld 4 (by decide : 4 < 67) (de_var 0))))) (fun _ _ _ h => h)
theorem sc__law_drawn : FnScope N__law_drawn ["state", "city"] (defScope s__law_drawn) := ⟨rfl, rfl, rfl, by decide +kernel, rfl, by decide +kernel, by decide +kernel⟩
theorem ok__law_drawn (Tx : Txt K P mg a) : FnOk P w K mg base (L2.CX P w) 7 a.f__law_drawn a.fd__law_drawn ["state", "city"] (spF (kt K P w a) 2 m__law_drawn) := by
  have G__law_pick := ok__law_pick (P := P) (w := w) (base := base) Tx
  have G_City_pin_count := ok_City_pin_count (P := P) (w := w) (base := base) Tx
  have G_Plan_init := ok_Plan_init (P := P) (w := w) (base := base) Tx
  have ND := sc__law_drawn.nd
  exact fn_ok (T := kt K P w a) (k := 6) false Tx.F__law_drawn sc__law_drawn (fun cdv A outer s H E hr tk po => dss_cons (ds_set 2 ND (de_own (da_nil))) (dss_cons (ds_for po rfl (di_range1 (de_fld 0 (by decide : 0 < 67) (de_var 1)) Tx.n_range) (dg_name 3 ND) (dss_cons (ds_set 4 ND (de_call tk G__law_pick (hr.mono (by decide)) Tx.m__law_pick Tx.F__law_pick.kp Tx.b__law_pick (da_cons (de_var 0) (da_cons (de_int) (da_nil))))) (dss_one (ds_expr (de_append (de_var 2) (de_ix (de_lst (da_cons (de_non) (da_cons (de_tup (da_cons (de_call tk G__law_pick (hr.mono (by decide)) Tx.m__law_pick Tx.F__law_pick.kp Tx.b__law_pick (da_cons (de_var 0) (da_cons (de_int) (da_nil)))) (da_cons (de_var 4) (da_cons (de_bin op_mulU ops_mulU (de_var 4) (de_call tk G__law_pick (hr.mono (by decide)) Tx.m__law_pick Tx.F__law_pick.kp Tx.b__law_pick (da_cons (de_var 0) (da_cons (de_int) (da_nil))))) (da_nil))))) (da_nil)))) (de_call tk G__law_pick (hr.mono (by decide)) Tx.m__law_pick Tx.F__law_pick.kp Tx.b__law_pick (da_cons (de_var 0) (da_cons (de_int) (da_nil)))))))))) (dss_cons (ds_set 5 ND (de_own (da_nil))) (dss_cons (ds_for po rfl (di_range1 (de_fld 1 (by decide : 1 < 67) (de_var 1)) Tx.n_range) (dg_name 3 ND) (dss_one (ds_expr (de_append (de_var 5) (de_callTy call_tuple_of cs_tuple Tx.n_tuple PyProof.Rows.boot_tuple (da_cons (de_callB (cr_srt rfl) cs_srt Tx.n_sorted (by decide +kernel) (da_cons (de_callTy (vm_setI rfl) cs_set Tx.n_set (by decide +kernel) (da_cons (de_lc (own := [("j", 6)]) rfl ND (di_range1 (de_call tk G__law_pick (hr.mono (by decide)) Tx.m__law_pick Tx.F__law_pick.kp Tx.b__law_pick (da_cons (de_var 0) (da_cons (de_int) (da_nil)))) Tx.n_range) (blkOk_by (by kernel_rfl)) (by decide) (fun b => dg_name 6 ND) (fun b => dts_nil) (fun b => de_call VM.takes0 G__law_pick (hr.mono (by decide)) Tx.m__law_pick Tx.F__law_pick.kp Tx.b__law_pick (da_cons (de_var 0) (da_cons (de_callB (call_max2 rfl) cs_max2 Tx.n_max (by decide +kernel) (da_cons (de_int) (da_cons (de_meth0 20 VM.takes0 Tx.me_City_pin_count (insB_ok Tx.in_City) (by decide +kernel : ¬ ("pin_count" : Str) ∈ flds) G_City_pin_count (hr.mono (by decide)) Tx.b_City_pin_count (de_var 1)) (da_nil)))) (da_nil))))) (da_nil))) (da_nil))) (da_nil))))))) (dss_cons (ds_if (dt_cmp (op_eqU hr.units) ops_eq (de_meth0 20 tk Tx.me_City_pin_count (insB_ok Tx.in_City) (by decide +kernel : ¬ ("pin_count" : Str) ∈ flds) G_City_pin_count (hr.mono (by decide)) Tx.b_City_pin_count (de_var 1)) (de_int) (nomark _)) (dss_one (ds_set 5 ND (de_bin op_mulU ops_mulU (de_lst (da_cons (de_tup (da_nil)) (da_nil))) (de_fld 1 (by decide : 1 < 67) (de_var 1))))) (dss_nil)) (dss_one (ds_ret (de_make false 21 tk Tx.mk_Plan (insB_ok Tx.in_Plan) G_Plan_init (hr.mono (by decide)) Tx.a_Plan Tx.b_Plan_init (da_cons (de_callTy call_tuple_of cs_tuple Tx.n_tuple PyProof.Rows.boot_tuple (da_cons (de_var 2) (da_nil))) (da_cons (de_callTy call_tuple_of cs_tuple Tx.n_tuple PyProof.Rows.boot_tuple (da_cons (de_var 5) (da_nil))) (da_nil))))))))))) (fun _ _ _ h => h)
theorem sc_Plan_eq : FnScope N_Plan_eq ["self", "other"] (defScope s_Plan_eq) := ⟨rfl, rfl, rfl, by decide +kernel, rfl, by decide +kernel, by decide +kernel⟩
theorem ok_Plan_eq (Tx : Txt K P mg a) : FnOk P w K mg base (L2.CX P w) 1 a.f_Plan_eq a.fd_Plan_eq ["self", "other"] (spF (kt K P w a) 2 m_Plan_eq) := by
  have ND := sc_Plan_eq.nd
  exact fn_ok (T := kt K P w a) (k := 0) false Tx.F_Plan_eq sc_Plan_eq (fun cdv A outer s H E hr tk po => dss_one (ds_ret (de_and (de_isc (D0 := 21) [(20, false), (21, true)] (de_var 1) Tx.n_isinstance Tx.a_Plan (tyB_ok Tx.ty_Plan) Tx.tab_Plan) (de_and (de_cmp (op_eqU hr.units) ops_eq (de_fld 5 (by decide : 5 < 67) (de_var 0)) (de_fld 5 (by decide : 5 < 67) (de_var 1)) (nomark _)) (de_one (de_cmp (op_eqU hr.units) ops_eq (de_fld 6 (by decide : 6 < 67) (de_var 0)) (de_fld 6 (by decide : 6 < 67) (de_var 1)) (nomark _))))))) (fun _ _ _ h => h)
theorem sc_changed_plan : FnScope N_changed_plan ["plan", "blocks", "lanes"] (defScope s_changed_plan) := ⟨rfl, rfl, rfl, by decide +kernel, rfl, by decide +kernel, by decide +kernel⟩
theorem ok_changed_plan (Tx : Txt K P mg a) : FnOk P w K mg base (L2.CX P w) 7 a.f_changed_plan a.fd_changed_plan ["plan", "blocks", "lanes"] (spF (kt K P w a) 3 m_changed_plan) := by
  have G_Plan_init := ok_Plan_init (P := P) (w := w) (base := base) Tx
  have ND := sc_changed_plan.nd
  exact fn_ok (T := kt K P w a) (k := 6) false Tx.F_changed_plan sc_changed_plan (fun cdv A outer s H E hr tk po => dss_cons (ds_setLc (own := [("k", 5)]) 3 rfl ND (di_range1 (de_callB call_len cs_len Tx.n_len PySem.boot_len (da_cons (de_fld 5 (by decide : 5 < 67) (de_var 0)) (da_nil))) Tx.n_range) (blkOk_by (by kernel_rfl)) (by decide) (fun b => dg_name 5 ND) (fun b => dts_nil) (fun b => de_if (dt_din (hu_of hr) (de_var 5) (de_var 1)) (de_dget (hu_of hr) (de_var 1) (de_var 5)) (de_ix (de_fld 5 (by decide : 5 < 67) (de_var 0)) (de_var 5))) (sw_true rfl rfl rfl (by decide +kernel))) (dss_cons (ds_setLc (own := [("k", 5)]) 4 rfl ND (di_range1 (de_callB call_len cs_len Tx.n_len PySem.boot_len (da_cons (de_fld 6 (by decide : 6 < 67) (de_var 0)) (da_nil))) Tx.n_range) (blkOk_by (by kernel_rfl)) (by decide) (fun b => dg_name 5 ND) (fun b => dts_nil) (fun b => de_if (dt_din (hu_of hr) (de_var 5) (de_var 2)) (de_dget (hu_of hr) (de_var 2) (de_var 5)) (de_ix (de_fld 6 (by decide : 6 < 67) (de_var 0)) (de_var 5))) (sw_true rfl rfl rfl (by decide +kernel))) (dss_one (ds_ret (de_make false 21 tk Tx.mk_Plan (insB_ok Tx.in_Plan) G_Plan_init (hr.mono (by decide)) Tx.a_Plan Tx.b_Plan_init (da_cons (de_callTy call_tuple_of cs_tuple Tx.n_tuple PyProof.Rows.boot_tuple (da_cons (de_var 3) (da_nil))) (da_cons (de_callTy call_tuple_of cs_tuple Tx.n_tuple PyProof.Rows.boot_tuple (da_cons (de_var 4) (da_nil))) (da_nil)))))))) (fun _ _ _ h => h)
theorem sc_plan_misfit : FnScope N_plan_misfit ["city", "plan"] (defScope s_plan_misfit) := ⟨rfl, rfl, rfl, by decide +kernel, rfl, by decide +kernel, by decide +kernel⟩
theorem ok_plan_misfit (Tx : Txt K P mg a) : FnOk P w K mg base (L2.CX P w) 3 a.f_plan_misfit a.fd_plan_misfit ["city", "plan"] (spF (kt K P w a) 2 m_plan_misfit) := by
  have G_City_pin_count := ok_City_pin_count (P := P) (w := w) (base := base) Tx
  have ND := sc_plan_misfit.nd
  exact fn_ok (T := kt K P w a) (k := 2) false Tx.F_plan_misfit sc_plan_misfit (fun cdv A outer s H E hr tk po => dss_cons (ds_if (dt_cmp (op_neU hr.units) ops_ne (de_callB call_len cs_len Tx.n_len PySem.boot_len (da_cons (de_fld 5 (by decide : 5 < 67) (de_var 1)) (da_nil))) (de_fld 0 (by decide : 0 < 67) (de_var 0)) (nomark _)) (dss_one (ds_ret (de_tup (da_cons (de_str) (da_cons (de_callB call_len cs_len Tx.n_len PySem.boot_len (da_cons (de_fld 5 (by decide : 5 < 67) (de_var 1)) (da_nil))) (da_nil)))))) (dss_nil)) (dss_cons (ds_if (dt_cmp (op_neU hr.units) ops_ne (de_callB call_len cs_len Tx.n_len PySem.boot_len (da_cons (de_fld 6 (by decide : 6 < 67) (de_var 1)) (da_nil))) (de_fld 1 (by decide : 1 < 67) (de_var 0)) (nomark _)) (dss_one (ds_ret (de_tup (da_cons (de_str) (da_cons (de_callB call_len cs_len Tx.n_len PySem.boot_len (da_cons (de_fld 6 (by decide : 6 < 67) (de_var 1)) (da_nil))) (da_nil)))))) (dss_nil)) (dss_cons (ds_for po rfl (di_any (de_fld 6 (by decide : 6 < 67) (de_var 1))) (dg_name 2 ND) (dss_one (ds_for po rfl (di_any (de_var 2)) (dg_name 3 ND) (dss_one (ds_if (dt_cmp op_ge ops_ge (de_var 3) (de_meth0 20 tk Tx.me_City_pin_count (insB_ok Tx.in_City) (by decide +kernel : ¬ ("pin_count" : Str) ∈ flds) G_City_pin_count (hr.mono (by decide)) Tx.b_City_pin_count (de_var 0)) (nomark _)) (dss_one (ds_ret (de_tup (da_cons (de_str) (da_cons (de_var 3) (da_nil)))))) (dss_nil)))))) (dss_one (ds_ret (de_non)))))) (fun _ _ _ h => h)
theorem sc_check_plan : FnScope N_check_plan ["city", "plan"] (defScope s_check_plan) := ⟨rfl, rfl, rfl, by decide +kernel, rfl, by decide +kernel, by decide +kernel⟩
theorem ok_check_plan (Tx : Txt K P mg a) : FnOk P w K mg base (L2.CX P w) 5 a.f_check_plan a.fd_check_plan ["city", "plan"] (spF (kt K P w a) 2 m_check_plan) := by
  have G_plan_misfit := ok_plan_misfit (P := P) (w := w) (base := base) Tx
  have ND := sc_check_plan.nd
  exact fn_ok (T := kt K P w a) (k := 4) false Tx.F_check_plan sc_check_plan (fun cdv A outer s H E hr tk po => dss_cons (ds_set 2 ND (de_call tk G_plan_misfit (hr.mono (by decide)) Tx.m_plan_misfit Tx.F_plan_misfit.kp Tx.b_plan_misfit (da_cons (de_var 0) (da_cons (de_var 1) (da_nil))))) (dss_one (ds_if (dt_cmp op_notN ops_isNN (de_var 2) (de_non) (nomark _)) (dss_one (ds_raise 11 rfl tk (er_InvalidPlan Tx) (hr.mono (by decide)) (de_var 2))) (dss_nil)))) (fun _ _ _ h => h)
theorem sc__law_refused : FnScope N__law_refused ["kind", "parts"] (defScope s__law_refused) := ⟨rfl, rfl, rfl, by decide +kernel, rfl, by decide +kernel, by decide +kernel⟩
theorem ok__law_refused (Tx : Txt K P mg a) : FnOk P w K mg base (L2.CX P w) 7 a.f__law_refused a.fd__law_refused ["kind", "parts"] (spF (kt K P w a) 2 m__law_refused) := by
  have G_City_init := ok_City_init (P := P) (w := w) (base := base) Tx
  have G_Plan_init := ok_Plan_init (P := P) (w := w) (base := base) Tx
  have G_check_plan := ok_check_plan (P := P) (w := w) (base := base) Tx
  have ND := sc__law_refused.nd
  exact fn_ok (T := kt K P w a) (k := 6) false Tx.F__law_refused sc__law_refused (fun cdv A outer s H E hr tk po => dss_cons (ds_try rfl rfl ND tk (fun W pn xe tk po => dss_one (ds_if (dt_cmp (op_eqU hr.units) ops_eq (de_var 0) (de_int) (nomark _)) (dss_one (ds_expr (de_make false 20 tk Tx.mk_City (insB_ok Tx.in_City) G_City_init (hr.mono (by decide)) Tx.a_City Tx.b_City_init (da_cons (de_ix (de_var 1) (de_int)) (da_cons (de_ix (de_var 1) (de_int)) (da_cons (de_ix (de_var 1) (de_int)) (da_cons (de_ix (de_var 1) (de_int)) (da_nil)))))))) (dss_one (ds_if (dt_cmp (op_eqU hr.units) ops_eq (de_var 0) (de_int) (nomark _)) (dss_one (ds_expr (de_make false 21 tk Tx.mk_Plan (insB_ok Tx.in_Plan) G_Plan_init (hr.mono (by decide)) Tx.a_Plan Tx.b_Plan_init (da_cons (de_ix (de_var 1) (de_int)) (da_cons (de_ix (de_var 1) (de_int)) (da_nil)))))) (dss_one (ds_expr (de_call tk G_check_plan (hr.mono (by decide)) Tx.m_check_plan Tx.F_check_plan.kp Tx.b_check_plan (da_cons (de_ix (de_var 1) (de_int)) (da_cons (de_ix (de_var 1) (de_int)) (da_nil)))))))))) (dh_as 2 (tab := [(0, false), (10, true), (11, false)]) (⟨rfl, by decide, .inl Tx.a_InvalidCity⟩) Tx.ex_InvalidCity (fun ae oe cls d pn ex hz hv hc hmem => dss_one (ds_ret (de_tup (da_cons (de_xp hz hv hc (Tx.xf_all _ hmem)) (da_nil))))) (dh_as 2 (tab := [(0, false), (10, false), (11, true)]) (⟨rfl, by decide, .inl Tx.a_InvalidPlan⟩) Tx.ex_InvalidPlan (fun ae oe cls d pn ex hz hv hc hmem => dss_one (ds_ret (de_tup (da_cons (de_xp hz hv hc (Tx.xf_all _ hmem)) (da_nil))))) (dh_end)))) (dss_one (ds_ret (de_non)))) (fun _ _ _ h => h)
theorem sc__law_changes : FnScope N__law_changes ["state", "city", "plan"] (defScope s__law_changes) := ⟨rfl, rfl, rfl, by decide +kernel, rfl, by decide +kernel, by decide +kernel⟩
theorem ok__law_changes (Tx : Txt K P mg a) : FnOk P w K mg base (L2.CX P w) 9 a.f__law_changes a.fd__law_changes ["state", "city", "plan"] (spF (kt K P w a) 3 m__law_changes) := by
  have G__law_pick := ok__law_pick (P := P) (w := w) (base := base) Tx
  have G_City_pin_count := ok_City_pin_count (P := P) (w := w) (base := base) Tx
  have G_changed_plan := ok_changed_plan (P := P) (w := w) (base := base) Tx
  have G_Plan_init := ok_Plan_init (P := P) (w := w) (base := base) Tx
  have G_Plan_eq := ok_Plan_eq (P := P) (w := w) (base := base) Tx
  have G_plan_misfit := ok_plan_misfit (P := P) (w := w) (base := base) Tx
  have G__law_refused := ok__law_refused (P := P) (w := w) (base := base) Tx
  have ND := sc__law_changes.nd
  exact fn_ok (T := kt K P w a) (k := 8) false Tx.F__law_changes sc__law_changes (fun cdv A outer s H E hr tk po => dss_cons (ds_set 3 ND (de_callTyO call_list_of co_list Tx.n_list PyProof.Rows.boot_list (da_cons (de_fld 5 (by decide : 5 < 67) (de_var 2)) (da_nil)))) (dss_cons (ds_set 4 ND (de_callTyO call_list_of co_list Tx.n_list PyProof.Rows.boot_list (da_cons (de_fld 6 (by decide : 6 < 67) (de_var 2)) (da_nil)))) (dss_cons (ds_set 5 ND (de_newK)) (dss_cons (ds_set 6 ND (de_newK)) (dss_cons (ds_for po rfl (di_range1 (de_fld 0 (by decide : 0 < 67) (de_var 1)) Tx.n_range) (dg_name 7 ND) (dss_one (ds_if (dt_cmp (op_eqU hr.units) ops_eq (de_call tk G__law_pick (hr.mono (by decide)) Tx.m__law_pick Tx.F__law_pick.kp Tx.b__law_pick (da_cons (de_var 0) (da_cons (de_int) (da_nil)))) (de_int) (nomark _)) (dss_cons (ds_dput (hu_of hr) (de_ix (de_lst (da_cons (de_non) (da_cons (de_tup (da_cons (de_int) (da_cons (de_int) (da_cons (de_int) (da_nil))))) (da_nil)))) (de_call tk G__law_pick (hr.mono (by decide)) Tx.m__law_pick Tx.F__law_pick.kp Tx.b__law_pick (da_cons (de_var 0) (da_cons (de_int) (da_nil))))) (de_var 5) (de_var 7)) (dss_one (ds_sub (de_dget (hu_of hr) (de_var 5) (de_var 7)) (de_var 3) (de_var 7)))) (dss_nil)))) (dss_cons (ds_for po rfl (di_range1 (de_fld 1 (by decide : 1 < 67) (de_var 1)) Tx.n_range) (dg_name 7 ND) (dss_one (ds_if (DW.t (dw_and (dt_cmp (op_eqU hr.units) ops_eq (de_call tk G__law_pick (hr.mono (by decide)) Tx.m__law_pick Tx.F__law_pick.kp Tx.b__law_pick (da_cons (de_var 0) (da_cons (de_int) (da_nil)))) (de_int) (nomark _)) (dw_and1 (dt_cmp op_gt ops_gt (de_meth0 20 tk Tx.me_City_pin_count (insB_ok Tx.in_City) (by decide +kernel : ¬ ("pin_count" : Str) ∈ flds) G_City_pin_count (hr.mono (by decide)) Tx.b_City_pin_count (de_var 1)) (de_int) (nomark _))))) (dss_cons (ds_dput (hu_of hr) (de_tup (da_cons (de_call tk G__law_pick (hr.mono (by decide)) Tx.m__law_pick Tx.F__law_pick.kp Tx.b__law_pick (da_cons (de_var 0) (da_cons (de_meth0 20 tk Tx.me_City_pin_count (insB_ok Tx.in_City) (by decide +kernel : ¬ ("pin_count" : Str) ∈ flds) G_City_pin_count (hr.mono (by decide)) Tx.b_City_pin_count (de_var 1)) (da_nil)))) (da_nil))) (de_var 6) (de_var 7)) (dss_one (ds_sub (de_dget (hu_of hr) (de_var 6) (de_var 7)) (de_var 4) (de_var 7)))) (dss_nil)))) (dss_cons (ds_set 8 ND (de_call tk G_changed_plan (hr.mono (by decide)) Tx.m_changed_plan Tx.F_changed_plan.kp Tx.b_changed_plan (da_cons (de_var 2) (da_cons (de_var 5) (da_cons (de_var 6) (da_nil)))))) (dss_cons (ds_if (DW.t (dw_or (dt_cmpM (op_neI G_Plan_eq Tx.me_Plan_eq.at_ Tx.ne_Plan Tx.mo_Plan Tx.me_Plan_eq.fn Tx.b_Plan_eq (hr.mono (by decide))) (opm_eqI (c := 21)) (de_var 8) (de_make false 21 tk Tx.mk_Plan (insB_ok Tx.in_Plan) G_Plan_init (hr.mono (by decide)) Tx.a_Plan Tx.b_Plan_init (da_cons (de_callTy call_tuple_of cs_tuple Tx.n_tuple PyProof.Rows.boot_tuple (da_cons (de_var 3) (da_nil))) (da_cons (de_callTy call_tuple_of cs_tuple Tx.n_tuple PyProof.Rows.boot_tuple (da_cons (de_var 4) (da_nil))) (da_nil)))) (nomark _)) (dw_or1 (dt_cmp (op_neU hr.units) ops_ne (de_cmpM (op_eqI G_Plan_eq Tx.me_Plan_eq.at_ Tx.me_Plan_eq.fn Tx.b_Plan_eq (hr.mono (by decide))) (opm_eqI (c := 21)) (de_var 8) (de_var 2) (nomark _)) (de_and (de_cmp (op_eqU hr.units) ops_eq (de_callTy call_tuple_of cs_tuple Tx.n_tuple PyProof.Rows.boot_tuple (da_cons (de_var 3) (da_nil))) (de_fld 5 (by decide : 5 < 67) (de_var 2)) (nomark _)) (de_one (de_cmp (op_eqU hr.units) ops_eq (de_callTy call_tuple_of cs_tuple Tx.n_tuple PyProof.Rows.boot_tuple (da_cons (de_var 4) (da_nil))) (de_fld 6 (by decide : 6 < 67) (de_var 2)) (nomark _)))) (nomark _))))) (dss_one (ds_ret (de_bl))) (dss_nil)) (dss_cons (ds_set 9 ND (de_bin op_add4 ops_add (de_meth0 20 tk Tx.me_City_pin_count (insB_ok Tx.in_City) (by decide +kernel : ¬ ("pin_count" : Str) ∈ flds) G_City_pin_count (hr.mono (by decide)) Tx.b_City_pin_count (de_var 1)) (de_call tk G__law_pick (hr.mono (by decide)) Tx.m__law_pick Tx.F__law_pick.kp Tx.b__law_pick (da_cons (de_var 0) (da_cons (de_int) (da_nil)))))) (dss_cons (ds_set 10 ND (de_make false 21 tk Tx.mk_Plan (insB_ok Tx.in_Plan) G_Plan_init (hr.mono (by decide)) Tx.a_Plan Tx.b_Plan_init (da_cons (de_fld 5 (by decide : 5 < 67) (de_var 2)) (da_cons (de_bin op_add4 ops_add (de_slice (de_fld 6 (by decide : 6 < 67) (de_var 2)) (do_none) (do_some (de_neg (de_int)))) (de_bin op_mulU ops_mulU (de_tup (da_cons (de_tup (da_cons (de_var 9) (da_nil))) (da_nil))) (de_callB (call_min2 rfl) cs_min2 Tx.n_min (by decide +kernel) (da_cons (de_int) (da_cons (de_fld 1 (by decide : 1 < 67) (de_var 1)) (da_nil)))))) (da_nil))))) (dss_cons (ds_set 11 ND (de_own (da_cons (de_tup (da_cons (de_make false 21 tk Tx.mk_Plan (insB_ok Tx.in_Plan) G_Plan_init (hr.mono (by decide)) Tx.a_Plan Tx.b_Plan_init (da_cons (de_bin op_add4 ops_add (de_fld 5 (by decide : 5 < 67) (de_var 2)) (de_tup (da_cons (de_non) (da_nil)))) (da_cons (de_fld 6 (by decide : 6 < 67) (de_var 2)) (da_nil)))) (da_cons (de_tup (da_cons (de_str) (da_cons (de_bin op_add4 ops_add (de_fld 0 (by decide : 0 < 67) (de_var 1)) (de_int)) (da_nil)))) (da_nil)))) (da_cons (de_tup (da_cons (de_make false 21 tk Tx.mk_Plan (insB_ok Tx.in_Plan) G_Plan_init (hr.mono (by decide)) Tx.a_Plan Tx.b_Plan_init (da_cons (de_fld 5 (by decide : 5 < 67) (de_var 2)) (da_cons (de_bin op_add4 ops_add (de_fld 6 (by decide : 6 < 67) (de_var 2)) (de_tup (da_cons (de_tup (da_nil)) (da_nil)))) (da_nil)))) (da_cons (de_tup (da_cons (de_str) (da_cons (de_bin op_add4 ops_add (de_fld 1 (by decide : 1 < 67) (de_var 1)) (de_int)) (da_nil)))) (da_nil)))) (da_nil))))) (dss_cons (ds_if (dt_cmp op_gt ops_gt (de_fld 1 (by decide : 1 < 67) (de_var 1)) (de_int) (nomark _)) (dss_one (ds_expr (de_append (de_var 11) (de_tup (da_cons (de_var 10) (da_cons (de_tup (da_cons (de_str) (da_cons (de_var 9) (da_nil)))) (da_nil))))))) (dss_nil)) (dss_cons (ds_for po rfl (di_any (de_var 11)) (dg_tup rfl (dgs_cons (dg_name 12 ND) (dgs_cons (dg_name 13 ND) (dgs_nil)))) (dss_one (ds_if (DW.t (dw_or (dt_cmp (op_neU hr.units) ops_ne (de_call tk G_plan_misfit (hr.mono (by decide)) Tx.m_plan_misfit Tx.F_plan_misfit.kp Tx.b_plan_misfit (da_cons (de_var 1) (da_cons (de_var 12) (da_nil)))) (de_var 13) (nomark _)) (dw_or1 (dt_cmp (op_neU hr.units) ops_ne (de_call tk G__law_refused (hr.mono (by decide)) Tx.m__law_refused Tx.F__law_refused.kp Tx.b__law_refused (da_cons (de_int) (da_cons (de_lst (da_cons (de_var 1) (da_cons (de_var 12) (da_nil)))) (da_nil)))) (de_tup (da_cons (de_var 13) (da_nil))) (nomark _))))) (dss_one (ds_ret (de_bl))) (dss_nil)))) (dss_one (ds_ret (de_cmp (op_eqU hr.units) ops_eq (de_call tk G_plan_misfit (hr.mono (by decide)) Tx.m_plan_misfit Tx.F_plan_misfit.kp Tx.b_plan_misfit (da_cons (de_var 1) (da_cons (de_make false 21 tk Tx.mk_Plan (insB_ok Tx.in_Plan) G_Plan_init (hr.mono (by decide)) Tx.a_Plan Tx.b_Plan_init (da_cons (de_bin op_add4 ops_add (de_fld 5 (by decide : 5 < 67) (de_var 2)) (de_tup (da_cons (de_non) (da_nil)))) (da_cons (de_tup (da_nil)) (da_nil)))) (da_nil)))) (de_tup (da_cons (de_str) (da_cons (de_bin op_add4 ops_add (de_fld 0 (by decide : 0 < 67) (de_var 1)) (de_int)) (da_nil)))) (nomark _))))))))))))))))) (fun _ _ _ h => h)
theorem sc_City_numbers : FnScope N_City_numbers ["self"] (defScope s_City_numbers) := ⟨rfl, rfl, rfl, by decide +kernel, rfl, by decide +kernel, by decide +kernel⟩
theorem ok_City_numbers (Tx : Txt K P mg a) : FnOk P w K mg base (L2.CX P w) 1 a.f_City_numbers a.fd_City_numbers ["self"] (spF (kt K P w a) 1 m_City_numbers) := by
  have ND := sc_City_numbers.nd
  exact fn_ok (T := kt K P w a) (k := 0) false Tx.F_City_numbers sc_City_numbers (fun cdv A outer s H E hr tk po => dss_one (ds_ret (de_tup (da_cons (de_fld 3 (by decide : 3 < 67) (de_var 0)) (da_cons (de_fld 0 (by decide : 0 < 67) (de_var 0)) (da_cons (de_fld 4 (by decide : 4 < 67) (de_var 0)) (da_cons (de_fld 1 (by decide : 1 < 67) (de_var 0)) (da_nil)))))))) (fun _ _ _ h => h)
theorem sc_City_eq : FnScope N_City_eq ["self", "other"] (defScope s_City_eq) := ⟨rfl, rfl, rfl, by decide +kernel, rfl, by decide +kernel, by decide +kernel⟩
theorem ok_City_eq (Tx : Txt K P mg a) : FnOk P w K mg base (L2.CX P w) 3 a.f_City_eq a.fd_City_eq ["self", "other"] (spF (kt K P w a) 2 m_City_eq) := by
  have G_City_numbers := ok_City_numbers (P := P) (w := w) (base := base) Tx
  have ND := sc_City_eq.nd
  exact fn_ok (T := kt K P w a) (k := 2) false Tx.F_City_eq sc_City_eq (fun cdv A outer s H E hr tk po => dss_one (ds_ret (de_and (de_isc (D0 := 20) [(20, true), (21, false)] (de_var 1) Tx.n_isinstance Tx.a_City (tyB_ok Tx.ty_City) Tx.tab_City) (de_one (de_cmp (op_eqU hr.units) ops_eq (de_meth0 20 tk Tx.me_City_numbers (insB_ok Tx.in_City) (by decide +kernel : ¬ ("numbers" : Str) ∈ flds) G_City_numbers (hr.mono (by decide)) Tx.b_City_numbers (de_var 0)) (de_meth0 20 tk Tx.me_City_numbers (insB_ok Tx.in_City) (by decide +kernel : ¬ ("numbers" : Str) ∈ flds) G_City_numbers (hr.mono (by decide)) Tx.b_City_numbers (de_var 1)) (nomark _)))))) (fun _ _ _ h => h)
theorem sc__law_wrong : FnScope N__law_wrong ["state", "city", "plan"] (defScope s__law_wrong) := ⟨rfl, rfl, rfl, by decide +kernel, rfl, by decide +kernel, by decide +kernel⟩
theorem ok__law_wrong (Tx : Txt K P mg a) : FnOk P w K mg base (L2.CX P w) 9 a.f__law_wrong a.fd__law_wrong ["state", "city", "plan"] (spF (kt K P w a) 3 m__law_wrong) := by
  have G_City_numbers := ok_City_numbers (P := P) (w := w) (base := base) Tx
  have G__law_pick := ok__law_pick (P := P) (w := w) (base := base) Tx
  have G__law_refused := ok__law_refused (P := P) (w := w) (base := base) Tx
  have G_is_from_zero := ok_is_from_zero (P := P) (w := w) (base := base) Tx
  have G_City_init := ok_City_init (P := P) (w := w) (base := base) Tx
  have G_City_eq := ok_City_eq (P := P) (w := w) (base := base) Tx
  have ND := sc__law_wrong.nd
  exact fn_ok (T := kt K P w a) (k := 8) false Tx.F__law_wrong sc__law_wrong (fun cdv A outer s H E hr tk po => dss_cons (ds_set 3 ND (de_callTyO call_list_of co_list Tx.n_list PyProof.Rows.boot_list (da_cons (de_meth0 20 tk Tx.me_City_numbers (insB_ok Tx.in_City) (by decide +kernel : ¬ ("numbers" : Str) ∈ flds) G_City_numbers (hr.mono (by decide)) Tx.b_City_numbers (de_var 1)) (da_nil)))) (dss_cons (ds_set 4 ND (de_call tk G__law_pick (hr.mono (by decide)) Tx.m__law_pick Tx.F__law_pick.kp Tx.b__law_pick (da_cons (de_var 0) (da_cons (de_int) (da_nil))))) (dss_cons (ds_sub (de_ix (de_lst (da_cons (de_int) (da_cons (de_neg (de_int)) (da_cons (de_bl) (da_cons (de_non) (da_cons (de_str) (da_cons (de_tup (da_cons (de_int) (da_nil))) (da_nil)))))))) (de_call tk G__law_pick (hr.mono (by decide)) Tx.m__law_pick Tx.F__law_pick.kp Tx.b__law_pick (da_cons (de_var 0) (da_cons (de_int) (da_nil))))) (de_var 3) (de_var 4)) (dss_cons (ds_set 5 ND (de_bin op_add4 ops_add (de_slice (de_var 3) (do_none) (do_some (de_bin op_add4 ops_add (de_var 4) (de_int)))) (de_bin op_mulU ops_mulU (de_lst (da_cons (de_ix (de_var 3) (de_var 4)) (da_nil))) (de_bin op_sub ops_sub (de_int) (de_var 4))))) (dss_cons (ds_if (DW.t (dw_or (dt_cmp (op_neU hr.units) ops_ne (de_call tk G__law_refused (hr.mono (by decide)) Tx.m__law_refused Tx.F__law_refused.kp Tx.b__law_refused (da_cons (de_int) (da_cons (de_var 3) (da_nil)))) (de_tup (da_cons (de_var 4) (da_nil))) (nomark _)) (dw_or (dt_cmp (op_neU hr.units) ops_ne (de_call tk G__law_refused (hr.mono (by decide)) Tx.m__law_refused Tx.F__law_refused.kp Tx.b__law_refused (da_cons (de_int) (da_cons (de_var 5) (da_nil)))) (de_tup (da_cons (de_var 4) (da_nil))) (nomark _)) (dw_or1 (dt_cmp op_notN ops_isNN (de_call tk G__law_refused (hr.mono (by decide)) Tx.m__law_refused Tx.F__law_refused.kp Tx.b__law_refused (da_cons (de_int) (da_cons (de_lst (da_cons (de_int) (da_cons (de_int) (da_cons (de_int) (da_cons (de_int) (da_nil)))))) (da_nil)))) (de_non) (nomark _)))))) (dss_one (ds_ret (de_bl))) (dss_nil)) (dss_cons (ds_set 6 ND (de_lst (da_cons (de_tup (da_nil)) (da_cons (de_tup (da_cons (de_int) (da_cons (de_int) (da_nil)))) (da_cons (de_tup (da_cons (de_int) (da_cons (de_int) (da_cons (de_int) (da_nil))))) (da_cons (de_tup (da_cons (de_int) (da_cons (de_int) (da_cons (de_int) (da_nil))))) (da_cons (de_tup (da_cons (de_int) (da_cons (de_int) (da_cons (de_int) (da_nil))))) (da_cons (de_tup (da_cons (de_int) (da_cons (de_int) (da_cons (de_int) (da_nil))))) (da_cons (de_tup (da_cons (de_bl) (da_cons (de_int) (da_cons (de_int) (da_nil))))) (da_cons (de_lst (da_cons (de_int) (da_cons (de_int) (da_cons (de_int) (da_nil))))) (da_cons (de_tup (da_cons (de_int) (da_cons (de_bl) (da_cons (de_int) (da_nil))))) (da_cons (de_int) (da_cons (de_tup (da_cons (de_neg (de_int)) (da_cons (de_int) (da_cons (de_int) (da_nil))))) (da_cons (de_tup (da_cons (de_int) (da_cons (de_int) (da_cons (de_bl) (da_nil))))) (da_nil))))))))))))))) (dss_cons (ds_set 7 ND (de_callB call_len cs_len Tx.n_len PySem.boot_len (da_cons (de_fld 5 (by decide : 5 < 67) (de_var 2)) (da_nil)))) (dss_cons (ds_if (dt_cmp (op_neU hr.units) ops_ne (de_call tk G__law_refused (hr.mono (by decide)) Tx.m__law_refused Tx.F__law_refused.kp Tx.b__law_refused (da_cons (de_int) (da_cons (de_lst (da_cons (de_bin op_add4 ops_add (de_fld 5 (by decide : 5 < 67) (de_var 2)) (de_tup (da_cons (de_ix (de_var 6) (de_call tk G__law_pick (hr.mono (by decide)) Tx.m__law_pick Tx.F__law_pick.kp Tx.b__law_pick (da_cons (de_var 0) (da_cons (de_int) (da_nil))))) (da_nil)))) (da_cons (de_fld 6 (by decide : 6 < 67) (de_var 2)) (da_nil)))) (da_nil)))) (de_tup (da_cons (de_tup (da_cons (de_str) (da_cons (de_var 7) (da_nil)))) (da_nil))) (nomark _)) (dss_one (ds_ret (de_bl))) (dss_nil)) (dss_cons (ds_set 8 ND (de_lst (da_cons (de_non) (da_cons (de_lst (da_cons (de_int) (da_nil))) (da_cons (de_tup (da_cons (de_int) (da_cons (de_int) (da_nil)))) (da_cons (de_tup (da_cons (de_int) (da_cons (de_int) (da_nil)))) (da_cons (de_tup (da_cons (de_neg (de_int)) (da_nil))) (da_cons (de_tup (da_cons (de_bl) (da_nil))) (da_cons (de_tup (da_cons (de_int) (da_cons (de_non) (da_nil)))) (da_cons (de_int) (da_cons (de_tup (da_cons (de_str) (da_nil))) (da_cons (de_tup (da_cons (de_bin op_pow ops_pow (de_int) (de_int)) (da_nil))) (da_nil))))))))))))) (dss_cons (ds_set 9 ND (de_callB call_len cs_len Tx.n_len PySem.boot_len (da_cons (de_fld 6 (by decide : 6 < 67) (de_var 2)) (da_nil)))) (dss_cons (ds_if (dt_cmp (op_neU hr.units) ops_ne (de_call tk G__law_refused (hr.mono (by decide)) Tx.m__law_refused Tx.F__law_refused.kp Tx.b__law_refused (da_cons (de_int) (da_cons (de_lst (da_cons (de_fld 5 (by decide : 5 < 67) (de_var 2)) (da_cons (de_bin op_add4 ops_add (de_fld 6 (by decide : 6 < 67) (de_var 2)) (de_tup (da_cons (de_ix (de_var 8) (de_call tk G__law_pick (hr.mono (by decide)) Tx.m__law_pick Tx.F__law_pick.kp Tx.b__law_pick (da_cons (de_var 0) (da_cons (de_int) (da_nil))))) (da_nil)))) (da_nil)))) (da_nil)))) (de_tup (da_cons (de_tup (da_cons (de_str) (da_cons (de_var 9) (da_nil)))) (da_nil))) (nomark _)) (dss_one (ds_ret (de_bl))) (dss_nil)) (dss_cons (ds_if (DW.t (dw_or (dt_cmp (op_neU hr.units) ops_ne (de_call tk G__law_refused (hr.mono (by decide)) Tx.m__law_refused Tx.F__law_refused.kp Tx.b__law_refused (da_cons (de_int) (da_cons (de_lst (da_cons (de_callTy call_list_of cs_list Tx.n_list PyProof.Rows.boot_list (da_cons (de_fld 5 (by decide : 5 < 67) (de_var 2)) (da_nil))) (da_cons (de_fld 6 (by decide : 6 < 67) (de_var 2)) (da_nil)))) (da_nil)))) (de_tup (da_cons (de_tup (da_cons (de_str) (da_cons (de_non) (da_nil)))) (da_nil))) (nomark _)) (dw_or1 (dt_cmp (op_neU hr.units) ops_ne (de_call tk G__law_refused (hr.mono (by decide)) Tx.m__law_refused Tx.F__law_refused.kp Tx.b__law_refused (da_cons (de_int) (da_cons (de_lst (da_cons (de_fld 5 (by decide : 5 < 67) (de_var 2)) (da_cons (de_callTy call_list_of cs_list Tx.n_list PyProof.Rows.boot_list (da_cons (de_fld 6 (by decide : 6 < 67) (de_var 2)) (da_nil))) (da_nil)))) (da_nil)))) (de_tup (da_cons (de_tup (da_cons (de_str) (da_cons (de_non) (da_nil)))) (da_nil))) (nomark _))))) (dss_one (ds_ret (de_bl))) (dss_nil)) (dss_cons (ds_setLc (own := [("one", 11)]) 10 rfl ND (di_any (de_lst (da_cons (de_int) (da_cons (de_int) (da_cons (de_int) (da_cons (de_neg (de_int)) (da_cons (de_bl) (da_cons (de_non) (da_cons (de_str) (da_cons (de_tup (da_cons (de_int) (da_nil))) (da_nil))))))))))) (blkOk_by (by kernel_rfl)) (by decide) (fun b => dg_name 11 ND) (fun b => dts_nil) (fun b => de_call VM.takes0 G_is_from_zero (hr.mono (by decide)) Tx.m_is_from_zero Tx.F_is_from_zero.kp Tx.b_is_from_zero (da_cons (de_var 11) (da_cons (de_int) (da_nil)))) (sw_true rfl rfl rfl (by decide +kernel))) (dss_one (ds_ret (de_and (de_cmp (op_eqU hr.units) ops_eq (de_var 10) (de_bin op_add4 ops_add (de_lst (da_cons (de_bl) (da_cons (de_bl) (da_nil)))) (de_bin op_mulU ops_mulU (de_lst (da_cons (de_bl) (da_nil))) (de_int))) (nomark _)) (de_and (de_cmpM (op_eqI G_City_eq Tx.me_City_eq.at_ Tx.me_City_eq.fn Tx.b_City_eq (hr.mono (by decide))) (opm_eqI (c := 20)) (de_var 1) (de_make false 20 tk Tx.mk_City (insB_ok Tx.in_City) G_City_init (hr.mono (by decide)) Tx.a_City Tx.b_City_init (da_cons (de_fld 3 (by decide : 3 < 67) (de_var 1)) (da_cons (de_fld 0 (by decide : 0 < 67) (de_var 1)) (da_cons (de_fld 4 (by decide : 4 < 67) (de_var 1)) (da_cons (de_fld 1 (by decide : 1 < 67) (de_var 1)) (da_nil)))))) (nomark _)) (de_one (de_cmpM (op_neI G_City_eq Tx.me_City_eq.at_ Tx.ne_City Tx.mo_City Tx.me_City_eq.fn Tx.b_City_eq (hr.mono (by decide))) (opm_eqI (c := 20)) (de_var 1) (de_make false 20 tk Tx.mk_City (insB_ok Tx.in_City) G_City_init (hr.mono (by decide)) Tx.a_City Tx.b_City_init (da_cons (de_bin op_add4 ops_add (de_fld 3 (by decide : 3 < 67) (de_var 1)) (de_int)) (da_cons (de_fld 0 (by decide : 0 < 67) (de_var 1)) (da_cons (de_fld 4 (by decide : 4 < 67) (de_var 1)) (da_cons (de_fld 1 (by decide : 1 < 67) (de_var 1)) (da_nil)))))) (nomark _)))))))))))))))))))) (fun _ _ _ h => h)
theorem sc_block_of : FnScope N_block_of ["city", "pin"] (defScope s_block_of) := ⟨rfl, rfl, rfl, by decide +kernel, rfl, by decide +kernel, by decide +kernel⟩
theorem ok_block_of (Tx : Txt K P mg a) : FnOk P w K mg base (L2.CX P w) 1 a.f_block_of a.fd_block_of ["city", "pin"] (spF (kt K P w a) 2 m_block_of) := by
  have ND := sc_block_of.nd
  exact fn_ok (T := kt K P w a) (k := 0) false Tx.F_block_of sc_block_of (fun cdv A outer s H E hr tk po => dss_cons (ds_set 2 ND (de_bin op_fdiv ops_fdiv (de_bin op_sub ops_sub (de_var 1) (de_fld 3 (by decide : 3 < 67) (de_var 0))) (de_int))) (dss_one (ds_ret (de_if (dt_chain op_le ops_le op_lt ops_lt (de_int) (de_var 2) (de_fld 0 (by decide : 0 < 67) (de_var 0))) (de_var 2) (de_non))))) (fun _ _ _ h => h)
theorem sc_City_out_pin : FnScope N_City_out_pin ["self", "j"] (defScope s_City_out_pin) := ⟨rfl, rfl, rfl, by decide +kernel, rfl, by decide +kernel, by decide +kernel⟩
theorem ok_City_out_pin (Tx : Txt K P mg a) : FnOk P w K mg base (L2.CX P w) 1 a.f_City_out_pin a.fd_City_out_pin ["self", "j"] (spF (kt K P w a) 2 m_City_out_pin) := by
  have ND := sc_City_out_pin.nd
  exact fn_ok (T := kt K P w a) (k := 0) false Tx.F_City_out_pin sc_City_out_pin (fun cdv A outer s H E hr tk po => dss_one (ds_ret (de_bin op_add4 ops_add (de_bin op_add4 ops_add (de_fld 3 (by decide : 3 < 67) (de_var 0)) (de_bin op_mulU ops_mulU (de_int) (de_fld 0 (by decide : 0 < 67) (de_var 0)))) (de_var 1)))) (fun _ _ _ h => h)
theorem sc_pin_name : FnScope N_pin_name ["city", "pin"] (defScope s_pin_name) := ⟨rfl, rfl, rfl, by decide +kernel, rfl, by decide +kernel, by decide +kernel⟩
theorem ok_pin_name (Tx : Txt K P mg a) : FnOk P w K mg base (L2.CX P w) 3 a.f_pin_name a.fd_pin_name ["city", "pin"] (spF (kt K P w a) 2 m_pin_name) := by
  have G_block_of := ok_block_of (P := P) (w := w) (base := base) Tx
  have G_City_out_pin := ok_City_out_pin (P := P) (w := w) (base := base) Tx
  have ND := sc_pin_name.nd
  exact fn_ok (T := kt K P w a) (k := 2) false Tx.F_pin_name sc_pin_name (fun cdv A outer s H E hr tk po => dss_cons (ds_set 2 ND (de_call tk G_block_of (hr.mono (by decide)) Tx.m_block_of Tx.F_block_of.kp Tx.b_block_of (da_cons (de_var 0) (da_cons (de_var 1) (da_nil))))) (dss_cons (ds_if (dt_cmp op_notN ops_isNN (de_var 2) (de_non) (nomark _)) (dss_one (ds_ret (de_bin op_add4 ops_add (de_bin op_add4 ops_add (de_bin op_add4 ops_add (de_str) (de_callTy call_str_int cs_str Tx.n_str (by decide +kernel) (da_cons (de_var 2) (da_nil)))) (de_str)) (de_callTy call_str_int cs_str Tx.n_str (by decide +kernel) (da_cons (de_bin op_and ops_and (de_callTy call_int1 cs_int Tx.n_int PyProof.Rows.boot_int (da_cons (de_bin op_sub ops_sub (de_var 1) (de_fld 3 (by decide : 3 < 67) (de_var 0))) (da_nil))) (de_int)) (da_nil)))))) (dss_nil)) (dss_one (ds_ret (de_if (dt_cmp op_lt ops_lt (de_var 1) (de_fld 3 (by decide : 3 < 67) (de_var 0)) (nomark _)) (de_bin op_add4 ops_add (de_str) (de_callTy call_str_int cs_str Tx.n_str (by decide +kernel) (da_cons (de_var 1) (da_nil)))) (de_bin op_add4 ops_add (de_str) (de_callTy call_str_int cs_str Tx.n_str (by decide +kernel) (da_cons (de_bin op_sub ops_sub (de_var 1) (de_meth 20 tk Tx.me_City_out_pin (insB_ok Tx.in_City) (by decide +kernel : ¬ ("out_pin" : Str) ∈ flds) G_City_out_pin (hr.mono (by decide)) Tx.b_City_out_pin (de_var 0) (da_cons (de_int) (da_nil)))) (da_nil))))))))) (fun _ _ _ h => h)
theorem sc_position_of : FnScope N_position_of ["city", "pin"] (defScope s_position_of) := ⟨rfl, rfl, rfl, by decide +kernel, rfl, by decide +kernel, by decide +kernel⟩
theorem ok_position_of (Tx : Txt K P mg a) : FnOk P w K mg base (L2.CX P w) 3 a.f_position_of a.fd_position_of ["city", "pin"] (spF (kt K P w a) 2 m_position_of) := by
  have G_block_of := ok_block_of (P := P) (w := w) (base := base) Tx
  have ND := sc_position_of.nd
  exact fn_ok (T := kt K P w a) (k := 2) false Tx.F_position_of sc_position_of (fun cdv A outer s H E hr tk po => dss_cons (ds_set 2 ND (de_call tk G_block_of (hr.mono (by decide)) Tx.m_block_of Tx.F_block_of.kp Tx.b_block_of (da_cons (de_var 0) (da_cons (de_var 1) (da_nil))))) (dss_cons (ds_if (dt_cmp op_notN ops_isNN (de_var 2) (de_non) (nomark _)) (dss_one (ds_ret (de_bin op_add4 ops_add (de_fld 3 (by decide : 3 < 67) (de_var 0)) (de_var 2)))) (dss_nil)) (dss_one (ds_ret (de_if (dt_cmp op_lt ops_lt (de_var 1) (de_fld 3 (by decide : 3 < 67) (de_var 0)) (nomark _)) (de_var 1) (de_bin op_sub ops_sub (de_var 1) (de_bin op_mulU ops_mulU (de_int) (de_fld 0 (by decide : 0 < 67) (de_var 0))))))))) (fun _ _ _ h => h)
theorem sc_is_telling : FnScope N_is_telling ["city", "pin"] (defScope s_is_telling) := ⟨rfl, rfl, rfl, by decide +kernel, rfl, by decide +kernel, by decide +kernel⟩
theorem ok_is_telling (Tx : Txt K P mg a) : FnOk P w K mg base (L2.CX P w) 3 a.f_is_telling a.fd_is_telling ["city", "pin"] (spF (kt K P w a) 2 m_is_telling) := by
  have G_block_of := ok_block_of (P := P) (w := w) (base := base) Tx
  have ND := sc_is_telling.nd
  exact fn_ok (T := kt K P w a) (k := 2) false Tx.F_is_telling sc_is_telling (fun cdv A outer s H E hr tk po => dss_one (ds_ret (de_or (de_cmp op_lt ops_lt (de_var 1) (de_fld 3 (by decide : 3 < 67) (de_var 0)) (nomark _)) (de_one (de_and (de_cmp op_notN ops_isNN (de_call tk G_block_of (hr.mono (by decide)) Tx.m_block_of Tx.F_block_of.kp Tx.b_block_of (da_cons (de_var 0) (da_cons (de_var 1) (da_nil)))) (de_non) (nomark _)) (de_one (de_cmp (op_eqU hr.units) ops_eq (de_bin op_and ops_and (de_callTy call_int1 cs_int Tx.n_int PyProof.Rows.boot_int (da_cons (de_bin op_sub ops_sub (de_var 1) (de_fld 3 (by decide : 3 < 67) (de_var 0))) (da_nil))) (de_int)) (de_int) (nomark _)))))))) (fun _ _ _ h => h)
theorem sc__law_same : FnScope N__law_same ["told", "due"] (defScope s__law_same) := ⟨rfl, rfl, rfl, by decide +kernel, rfl, by decide +kernel, by decide +kernel⟩
theorem ok__law_same : ∀ (n : Nat) (Tx : Txt K P mg a), FnOk P w K mg base (L2.CX P w) (0 + n) a.f__law_same a.fd__law_same ["told", "due"] (spF (kt K P w a) 2 (m__law_same n))
  | 0, _ => fn_none (T := kt K P w a) rfl
  | n + 1, Tx => by
    have G_rec := ok__law_same n Tx
    have ND := sc__law_same.nd
    exact fn_ok (T := kt K P w a) (k := 0 + n) false Tx.F__law_same sc__law_same (fun cdv A outer s H E hr tk po => dss_cons (ds_if (dt_cmp op_isN ops_isN (de_var 1) (de_non) (nomark _)) (dss_one (ds_ret (de_cmp op_isN ops_isN (de_var 0) (de_non) (nomark _)))) (dss_nil)) (dss_cons (ds_if (dt_val (de_isi TN.bool (de_var 1) Tx.n_isinstance Tx.n_bool)) (dss_one (ds_ret (de_and (de_isi TN.bool (de_var 0) Tx.n_isinstance Tx.n_bool) (de_one (de_cmp (op_eqU hr.units) ops_eq (de_var 0) (de_var 1) (nomark _)))))) (dss_nil)) (dss_cons (ds_if (dt_val (de_isi TN.int (de_var 1) Tx.n_isinstance Tx.n_int)) (dss_one (ds_ret (de_and (de_isi TN.int (de_var 0) Tx.n_isinstance Tx.n_int) (de_and (de_not (de_isi TN.bool (de_var 0) Tx.n_isinstance Tx.n_bool)) (de_one (de_cmp (op_eqU hr.units) ops_eq (de_var 0) (de_var 1) (nomark _))))))) (dss_nil)) (dss_cons (ds_if (dt_val (de_isi TN.str (de_var 1) Tx.n_isinstance Tx.n_str)) (dss_one (ds_ret (de_and (de_isi TN.str (de_var 0) Tx.n_isinstance Tx.n_str) (de_one (de_cmp (op_eqU hr.units) ops_eq (de_var 0) (de_var 1) (nomark _)))))) (dss_nil)) (dss_cons (ds_if (DW.t (dw_or (DW.t (dw_and (dt_val (de_isi TN.list (de_var 1) Tx.n_isinstance Tx.n_list)) (dw_and1 (dt_not (dt_val (de_isi TN.list (de_var 0) Tx.n_isinstance Tx.n_list)))))) (dw_or1 (DW.t (dw_and (dt_val (de_isi TN.tuple (de_var 1) Tx.n_isinstance Tx.n_tuple)) (dw_and1 (dt_not (dt_val (de_isi TN.tuple (de_var 0) Tx.n_isinstance Tx.n_tuple))))))))) (dss_one (ds_ret (de_bl))) (dss_nil)) (dss_one (ds_ret (de_and (de_cmp (op_eqU hr.units) ops_eq (de_callB call_len cs_len Tx.n_len PySem.boot_len (da_cons (de_var 0) (da_nil))) (de_callB call_len cs_len Tx.n_len PySem.boot_len (da_cons (de_var 1) (da_nil))) (nomark _)) (de_one (de_cmp (op_eqU hr.units) ops_eq (de_lc (own := [("k", 2)]) rfl ND (di_range1 (de_callB call_len cs_len Tx.n_len PySem.boot_len (da_cons (de_var 1) (da_nil))) Tx.n_range) (blkOk_by (by kernel_rfl)) (by decide) (fun b => dg_name 2 ND) (fun b => dts_one (dt_not (dt_val (de_call VM.takes0 G_rec (hr.mono (by omega)) Tx.m__law_same Tx.F__law_same.kp Tx.b__law_same (da_cons (de_ix (de_var 0) (de_var 2)) (da_cons (de_ix (de_var 1) (de_var 2)) (da_nil))))))) (fun b => de_int)) (de_lst (da_nil)) (nomark _))))))))))) (fun _ _ _ h => h)
theorem sc_cell_blocks : FnScope N_cell_blocks ["plan"] (defScope s_cell_blocks) := ⟨rfl, rfl, rfl, by decide +kernel, rfl, by decide +kernel, by decide +kernel⟩
theorem ok_cell_blocks (Tx : Txt K P mg a) : FnOk P w K mg base (L2.CX P w) 1 a.f_cell_blocks a.fd_cell_blocks ["plan"] (spF (kt K P w a) 1 m_cell_blocks) := by
  have ND := sc_cell_blocks.nd
  exact fn_ok (T := kt K P w a) (k := 0) false Tx.F_cell_blocks sc_cell_blocks (fun cdv A outer s H E hr tk po => dss_one (ds_ret (de_callTy call_tuple_of cs_tuple Tx.n_tuple PyProof.Rows.boot_tuple (da_cons (de_lc (own := [("k", 1)]) rfl ND (di_range1 (de_callB call_len cs_len Tx.n_len PySem.boot_len (da_cons (de_fld 5 (by decide : 5 < 67) (de_var 0)) (da_nil))) Tx.n_range) (blkOk_by (by kernel_rfl)) (by decide) (fun b => dg_name 1 ND) (fun b => dts_one (dt_cmp op_notN ops_isNN (de_ix (de_fld 5 (by decide : 5 < 67) (de_var 0)) (de_var 1)) (de_non) (nomark _))) (fun b => de_var 1)) (da_nil))))) (fun _ _ _ h => h)
theorem sc_joints_of : FnScope N_joints_of ["plan"] (defScope s_joints_of) := ⟨rfl, rfl, rfl, by decide +kernel, rfl, by decide +kernel, by decide +kernel⟩
theorem ok_joints_of (Tx : Txt K P mg a) : FnOk P w K mg base (L2.CX P w) 1 a.f_joints_of a.fd_joints_of ["plan"] (spF (kt K P w a) 1 m_joints_of) := by
  have ND := sc_joints_of.nd
  exact fn_ok (T := kt K P w a) (k := 0) false Tx.F_joints_of sc_joints_of (fun cdv A outer s H E hr tk po => dss_one (ds_ret (de_lc2 (own := [("lane", 1), ("pin", 2)]) (vs1 := [2]) rfl ND (di_range1 (de_callB call_len cs_len Tx.n_len PySem.boot_len (da_cons (de_fld 6 (by decide : 6 < 67) (de_var 0)) (da_nil))) Tx.n_range) (blkOk_by (by kernel_rfl)) (by decide) (by decide) (by decide) (fun b => dg_name 1 ND) (fun b => dts_nil) (fun b => di_any (de_ix (de_fld 6 (by decide : 6 < 67) (de_var 0)) (de_var 1))) (fun b => dg_name 2 ND) (fun b => dts_nil) (fun b => de_tup (da_cons (de_var 1) (da_cons (de_var 2) (da_nil))))))) (fun _ _ _ h => h)
theorem sc_joined_pins : FnScope N_joined_pins ["plan"] (defScope s_joined_pins) := ⟨rfl, rfl, rfl, by decide +kernel, rfl, by decide +kernel, by decide +kernel⟩
theorem ok_joined_pins (Tx : Txt K P mg a) : FnOk P w K mg base (L2.CX P w) 1 a.f_joined_pins a.fd_joined_pins ["plan"] (spF (kt K P w a) 1 m_joined_pins) := by
  have ND := sc_joined_pins.nd
  exact fn_ok (T := kt K P w a) (k := 0) false Tx.F_joined_pins sc_joined_pins (fun cdv A outer s H E hr tk po => dss_one (ds_ret (de_callTy call_tuple_of cs_tuple Tx.n_tuple PyProof.Rows.boot_tuple (da_cons (de_callB (cr_srt rfl) cs_srt Tx.n_sorted (by decide +kernel) (da_cons (de_dc2 (own := [("row", 1), ("pin", 2)]) (vs1 := [2]) rfl ND (di_any (de_fld 6 (by decide : 6 < 67) (de_var 0))) (blkOk_by (by kernel_rfl)) (by decide) (by decide) (by decide) (fun b => dg_name 1 ND) (fun b => dts_nil) (fun b => di_any (de_var 1)) (fun b => dg_name 2 ND) (fun b => dts_nil) (fun b => de_var 2) (fun b => de_bl)) (da_nil))) (da_nil))))) (fun _ _ _ h => h)
theorem sc_bare_plan : FnScope N_bare_plan ["city"] (defScope s_bare_plan) := ⟨rfl, rfl, rfl, by decide +kernel, rfl, by decide +kernel, by decide +kernel⟩
theorem ok_bare_plan (Tx : Txt K P mg a) : FnOk P w K mg base (L2.CX P w) 7 a.f_bare_plan a.fd_bare_plan ["city"] (spF (kt K P w a) 1 m_bare_plan) := by
  have G_Plan_init := ok_Plan_init (P := P) (w := w) (base := base) Tx
  have ND := sc_bare_plan.nd
  exact fn_ok (T := kt K P w a) (k := 6) false Tx.F_bare_plan sc_bare_plan (fun cdv A outer s H E hr tk po => dss_one (ds_ret (de_make false 21 tk Tx.mk_Plan (insB_ok Tx.in_Plan) G_Plan_init (hr.mono (by decide)) Tx.a_Plan Tx.b_Plan_init (da_cons (de_bin op_mulU ops_mulU (de_tup (da_cons (de_non) (da_nil))) (de_fld 0 (by decide : 0 < 67) (de_var 0))) (da_cons (de_bin op_mulU ops_mulU (de_tup (da_cons (de_tup (da_nil)) (da_nil))) (de_fld 1 (by decide : 1 < 67) (de_var 0))) (da_nil)))))) (fun _ _ _ h => h)
theorem sc__law_place_of : FnScope N__law_place_of ["city", "pin"] (defScope s__law_place_of) := ⟨rfl, rfl, rfl, by decide +kernel, rfl, by decide +kernel, by decide +kernel⟩
theorem ok__law_place_of (Tx : Txt K P mg a) : FnOk P w K mg base (L2.CX P w) 1 a.f__law_place_of a.fd__law_place_of ["city", "pin"] (spF (kt K P w a) 2 m__law_place_of) := by
  have ND := sc__law_place_of.nd
  exact fn_ok (T := kt K P w a) (k := 0) false Tx.F__law_place_of sc__law_place_of (fun cdv A outer s H E hr tk po => dss_cons (ds_if (dt_cmp op_lt ops_lt (de_var 1) (de_fld 3 (by decide : 3 < 67) (de_var 0)) (nomark _)) (dss_one (ds_ret (de_var 1))) (dss_nil)) (dss_cons (ds_if (dt_cmp op_lt ops_lt (de_var 1) (de_bin op_add4 ops_add (de_fld 3 (by decide : 3 < 67) (de_var 0)) (de_bin op_mulU ops_mulU (de_int) (de_fld 0 (by decide : 0 < 67) (de_var 0)))) (nomark _)) (dss_one (ds_ret (de_bin op_add4 ops_add (de_fld 3 (by decide : 3 < 67) (de_var 0)) (de_bin op_fdiv ops_fdiv (de_bin op_sub ops_sub (de_var 1) (de_fld 3 (by decide : 3 < 67) (de_var 0))) (de_int))))) (dss_nil)) (dss_one (ds_ret (de_bin op_sub ops_sub (de_bin op_sub ops_sub (de_bin op_add4 ops_add (de_bin op_add4 ops_add (de_fld 3 (by decide : 3 < 67) (de_var 0)) (de_fld 0 (by decide : 0 < 67) (de_var 0))) (de_var 1)) (de_fld 3 (by decide : 3 < 67) (de_var 0))) (de_bin op_mulU ops_mulU (de_int) (de_fld 0 (by decide : 0 < 67) (de_var 0)))))))) (fun _ _ _ h => h)
theorem sc_City_block_pin : FnScope N_City_block_pin ["self", "k", "place"] (defScope s_City_block_pin) := ⟨rfl, rfl, rfl, by decide +kernel, rfl, by decide +kernel, by decide +kernel⟩
theorem ok_City_block_pin (Tx : Txt K P mg a) : FnOk P w K mg base (L2.CX P w) 1 a.f_City_block_pin a.fd_City_block_pin ["self", "k", "place"] (spF (kt K P w a) 3 m_City_block_pin) := by
  have ND := sc_City_block_pin.nd
  exact fn_ok (T := kt K P w a) (k := 0) false Tx.F_City_block_pin sc_City_block_pin (fun cdv A outer s H E hr tk po => dss_one (ds_ret (de_bin op_add4 ops_add (de_bin op_add4 ops_add (de_fld 3 (by decide : 3 < 67) (de_var 0)) (de_bin op_mulU ops_mulU (de_int) (de_var 1))) (de_var 2)))) (fun _ _ _ h => h)
theorem sc_law : FnScope N_law ["script"] (defScope s_law) := ⟨rfl, rfl, rfl, by decide +kernel, rfl, by decide +kernel, by decide +kernel⟩
theorem ok_law (Tx : Txt K P mg a) : FnOk P w K mg base (L2.CX P w) 11 a.f_law a.fd_law ["script"] (spF (kt K P w a) 1 m_law) := by
  have G__law_start := ok__law_start (P := P) (w := w) (base := base) Tx
  have G__law_pick := ok__law_pick (P := P) (w := w) (base := base) Tx
  have G_City_init := ok_City_init (P := P) (w := w) (base := base) Tx
  have G__law_pins := ok__law_pins (P := P) (w := w) (base := base) Tx
  have G_City_pin_count := ok_City_pin_count (P := P) (w := w) (base := base) Tx
  have G_City_numbers := ok_City_numbers (P := P) (w := w) (base := base) Tx
  have G_block_of := ok_block_of (P := P) (w := w) (base := base) Tx
  have G_is_telling := ok_is_telling (P := P) (w := w) (base := base) Tx
  have G_position_of := ok_position_of (P := P) (w := w) (base := base) Tx
  have G_pin_name := ok_pin_name (P := P) (w := w) (base := base) Tx
  have G__law_same := ok__law_same (P := P) (w := w) (base := base) 8 Tx
  have G__law_place_of := ok__law_place_of (P := P) (w := w) (base := base) Tx
  have G_City_block_pin := ok_City_block_pin (P := P) (w := w) (base := base) Tx
  have G_City_out_pin := ok_City_out_pin (P := P) (w := w) (base := base) Tx
  have G__law_drawn := ok__law_drawn (P := P) (w := w) (base := base) Tx
  have G_plan_misfit := ok_plan_misfit (P := P) (w := w) (base := base) Tx
  have G_cell_blocks := ok_cell_blocks (P := P) (w := w) (base := base) Tx
  have G_joints_of := ok_joints_of (P := P) (w := w) (base := base) Tx
  have G_joined_pins := ok_joined_pins (P := P) (w := w) (base := base) Tx
  have G_bare_plan := ok_bare_plan (P := P) (w := w) (base := base) Tx
  have G_Plan_init := ok_Plan_init (P := P) (w := w) (base := base) Tx
  have G_Plan_eq := ok_Plan_eq (P := P) (w := w) (base := base) Tx
  have G__law_refused := ok__law_refused (P := P) (w := w) (base := base) Tx
  have G__law_changes := ok__law_changes (P := P) (w := w) (base := base) Tx
  have G__law_wrong := ok__law_wrong (P := P) (w := w) (base := base) Tx
  have ND := sc_law.nd
  exact fn_ok (T := kt K P w a) (k := 10) false Tx.F_law sc_law (fun cdv A outer s H E hr tk po => dss_cons (ds_set 1 ND (de_call tk G__law_start (hr.mono (by decide)) Tx.m__law_start Tx.F__law_start.kp Tx.b__law_start (da_cons (de_var 0) (da_nil)))) (dss_cons (ds_setLc (own := [("k", 6)]) 2 rfl ND (di_range1 (de_int) Tx.n_range) (blkOk_by (by kernel_rfl)) (by decide) (fun b => dg_name 6 ND) (fun b => dts_nil) (fun b => de_call VM.takes0 G__law_pick (hr.mono (by decide)) Tx.m__law_pick Tx.F__law_pick.kp Tx.b__law_pick (da_cons (de_var 1) (da_cons (de_int) (da_nil)))) (sw_true rfl rfl rfl (by decide +kernel))) (dss_cons (ds_set 3 ND (de_make false 20 tk Tx.mk_City (insB_ok Tx.in_City) G_City_init (hr.mono (by decide)) Tx.a_City Tx.b_City_init (da_cons (de_ix (de_var 2) (de_int)) (da_cons (de_ix (de_var 2) (de_int)) (da_cons (de_ix (de_var 2) (de_int)) (da_cons (de_ix (de_var 2) (de_int)) (da_nil))))))) (dss_cons (ds_set 4 ND (de_call tk G__law_pins (hr.mono (by decide)) Tx.m__law_pins Tx.F__law_pins.kp Tx.b__law_pins (da_cons (de_var 3) (da_nil)))) (dss_cons (ds_if (DW.t (dw_or (dt_cmp (op_neU hr.units) ops_ne (de_meth0 20 tk Tx.me_City_pin_count (insB_ok Tx.in_City) (by decide +kernel : ¬ ("pin_count" : Str) ∈ flds) G_City_pin_count (hr.mono (by decide)) Tx.b_City_pin_count (de_var 3)) (de_callB call_len cs_len Tx.n_len PySem.boot_len (da_cons (de_var 4) (da_nil))) (nomark _)) (dw_or (dt_cmp (op_neU hr.units) ops_ne (de_meth0 20 tk Tx.me_City_numbers (insB_ok Tx.in_City) (by decide +kernel : ¬ ("numbers" : Str) ∈ flds) G_City_numbers (hr.mono (by decide)) Tx.b_City_numbers (de_var 3)) (de_callTy call_tuple_of cs_tuple Tx.n_tuple PyProof.Rows.boot_tuple (da_cons (de_var 2) (da_nil))) (nomark _)) (dw_or1 (dt_cmp (op_neU hr.units) ops_ne (de_glob (v := .int 200) (d := .int 200) Tx.c_MOST_THINGS ⟨_, rfl⟩ (fun _ _ => rfl)) (de_int) (nomark _)))))) (dss_one (ds_ret (de_bl))) (dss_nil)) (dss_cons (ds_setLc (own := [("pin", 11)]) 5 rfl ND (di_range1 (de_callB call_len cs_len Tx.n_len PySem.boot_len (da_cons (de_var 4) (da_nil))) Tx.n_range) (blkOk_by (by kernel_rfl)) (by decide) (fun b => dg_name 11 ND) (fun b => dts_nil) (fun b => de_tup (da_cons (de_call VM.takes0 G_pin_name (hr.mono (by decide)) Tx.m_pin_name Tx.F_pin_name.kp Tx.b_pin_name (da_cons (de_var 3) (da_cons (de_var 11) (da_nil)))) (da_cons (de_call VM.takes0 G_position_of (hr.mono (by decide)) Tx.m_position_of Tx.F_position_of.kp Tx.b_position_of (da_cons (de_var 3) (da_cons (de_var 11) (da_nil)))) (da_cons (de_call VM.takes0 G_is_telling (hr.mono (by decide)) Tx.m_is_telling Tx.F_is_telling.kp Tx.b_is_telling (da_cons (de_var 3) (da_cons (de_var 11) (da_nil)))) (da_cons (de_call VM.takes0 G_block_of (hr.mono (by decide)) Tx.m_block_of Tx.F_block_of.kp Tx.b_block_of (da_cons (de_var 3) (da_cons (de_var 11) (da_nil)))) (da_nil)))))) (sw_true rfl rfl rfl (by decide +kernel))) (dss_cons (ds_if (DW.t (dw_or (dt_not (dt_val (de_call tk G__law_same (hr.mono (by decide)) Tx.m__law_same Tx.F__law_same.kp Tx.b__law_same (da_cons (de_var 5) (da_cons (de_var 4) (da_nil)))))) (dw_or1 (dt_cmp (op_neU hr.units) ops_ne (de_lc (own := [("pin", 11)]) rfl ND (di_range1 (de_callB call_len cs_len Tx.n_len PySem.boot_len (da_cons (de_var 4) (da_nil))) Tx.n_range) (blkOk_by (by kernel_rfl)) (by decide) (fun b => dg_name 11 ND) (fun b => dts_nil) (fun b => de_call VM.takes0 G_position_of (hr.mono (by decide)) Tx.m_position_of Tx.F_position_of.kp Tx.b_position_of (da_cons (de_var 3) (da_cons (de_var 11) (da_nil))))) (de_lc (own := [("pin", 11)]) rfl ND (di_range1 (de_callB call_len cs_len Tx.n_len PySem.boot_len (da_cons (de_var 4) (da_nil))) Tx.n_range) (blkOk_by (by kernel_rfl)) (by decide) (fun b => dg_name 11 ND) (fun b => dts_nil) (fun b => de_call VM.takes0 G__law_place_of (hr.mono (by decide)) Tx.m__law_place_of Tx.F__law_place_of.kp Tx.b__law_place_of (da_cons (de_var 3) (da_cons (de_var 11) (da_nil))))) (nomark _))))) (dss_one (ds_ret (de_bl))) (dss_nil)) (dss_cons (ds_for po rfl (di_range1 (de_fld 0 (by decide : 0 < 67) (de_var 3)) Tx.n_range) (dg_name 6 ND) (dss_one (ds_if (dt_cmp (op_neU hr.units) ops_ne (de_lc (own := [("place", 12)]) rfl ND (di_range1 (de_int) Tx.n_range) (blkOk_by (by kernel_rfl)) (by decide) (fun b => dg_name 12 ND) (fun b => dts_nil) (fun b => de_meth 20 VM.takes0 Tx.me_City_block_pin (insB_ok Tx.in_City) (by decide +kernel : ¬ ("block_pin" : Str) ∈ flds) G_City_block_pin (hr.mono (by decide)) Tx.b_City_block_pin (de_var 3) (da_cons (de_var 6) (da_cons (de_var 12) (da_nil))))) (de_lc (own := [("place", 12)]) rfl ND (di_range1 (de_int) Tx.n_range) (blkOk_by (by kernel_rfl)) (by decide) (fun b => dg_name 12 ND) (fun b => dts_nil) (fun b => de_bin op_add4 ops_add (de_bin op_add4 ops_add (de_fld 3 (by decide : 3 < 67) (de_var 3)) (de_bin op_mulU ops_mulU (de_int) (de_var 6))) (de_var 12))) (nomark _)) (dss_one (ds_ret (de_bl))) (dss_nil)))) (dss_cons (ds_if (dt_cmp (op_neU hr.units) ops_ne (de_lc (own := [("j", 13)]) rfl ND (di_range1 (de_fld 4 (by decide : 4 < 67) (de_var 3)) Tx.n_range) (blkOk_by (by kernel_rfl)) (by decide) (fun b => dg_name 13 ND) (fun b => dts_nil) (fun b => de_meth 20 VM.takes0 Tx.me_City_out_pin (insB_ok Tx.in_City) (by decide +kernel : ¬ ("out_pin" : Str) ∈ flds) G_City_out_pin (hr.mono (by decide)) Tx.b_City_out_pin (de_var 3) (da_cons (de_var 13) (da_nil)))) (de_lc (own := [("j", 13)]) rfl ND (di_range1 (de_fld 4 (by decide : 4 < 67) (de_var 3)) Tx.n_range) (blkOk_by (by kernel_rfl)) (by decide) (fun b => dg_name 13 ND) (fun b => dts_nil) (fun b => de_bin op_add4 ops_add (de_bin op_add4 ops_add (de_fld 3 (by decide : 3 < 67) (de_var 3)) (de_bin op_mulU ops_mulU (de_int) (de_fld 0 (by decide : 0 < 67) (de_var 3)))) (de_var 13))) (nomark _)) (dss_one (ds_ret (de_bl))) (dss_nil)) (dss_cons (ds_set 7 ND (de_call tk G__law_drawn (hr.mono (by decide)) Tx.m__law_drawn Tx.F__law_drawn.kp Tx.b__law_drawn (da_cons (de_var 1) (da_cons (de_var 3) (da_nil))))) (dss_cons (ds_set 8 ND (de_callTy call_tuple_of cs_tuple Tx.n_tuple PyProof.Rows.boot_tuple (da_cons (de_lc (own := [("k", 6)]) rfl ND (di_range1 (de_fld 0 (by decide : 0 < 67) (de_var 3)) Tx.n_range) (blkOk_by (by kernel_rfl)) (by decide) (fun b => dg_name 6 ND) (fun b => dts_one (dt_cmp op_notN ops_isNN (de_ix (de_fld 5 (by decide : 5 < 67) (de_var 7)) (de_var 6)) (de_non) (nomark _))) (fun b => de_var 6)) (da_nil)))) (dss_cons (ds_set 9 ND (de_lst (da_nil))) (dss_cons (ds_for po rfl (di_range1 (de_fld 1 (by decide : 1 < 67) (de_var 3)) Tx.n_range) (dg_name 10 ND) (dss_one (ds_set 9 ND (de_bin op_add4 ops_add (de_var 9) (de_lc (own := [("pin", 11)]) rfl ND (di_any (de_ix (de_fld 6 (by decide : 6 < 67) (de_var 7)) (de_var 10))) (blkOk_by (by kernel_rfl)) (by decide) (fun b => dg_name 11 ND) (fun b => dts_nil) (fun b => de_tup (da_cons (de_var 10) (da_cons (de_var 11) (da_nil))))))))) (dss_cons (ds_if (DW.t (dw_or (dt_cmp op_notN ops_isNN (de_call tk G_plan_misfit (hr.mono (by decide)) Tx.m_plan_misfit Tx.F_plan_misfit.kp Tx.b_plan_misfit (da_cons (de_var 3) (da_cons (de_var 7) (da_nil)))) (de_non) (nomark _)) (dw_or (dt_cmp (op_neU hr.units) ops_ne (de_call tk G_cell_blocks (hr.mono (by decide)) Tx.m_cell_blocks Tx.F_cell_blocks.kp Tx.b_cell_blocks (da_cons (de_var 7) (da_nil))) (de_var 8) (nomark _)) (dw_or (dt_cmp (op_neU hr.units) ops_ne (de_call tk G_joints_of (hr.mono (by decide)) Tx.m_joints_of Tx.F_joints_of.kp Tx.b_joints_of (da_cons (de_var 7) (da_nil))) (de_var 9) (nomark _)) (dw_or1 (dt_cmp (op_neU hr.units) ops_ne (de_call tk G_joined_pins (hr.mono (by decide)) Tx.m_joined_pins Tx.F_joined_pins.kp Tx.b_joined_pins (da_cons (de_var 7) (da_nil))) (de_callTy call_tuple_of cs_tuple Tx.n_tuple PyProof.Rows.boot_tuple (da_cons (de_callB (cr_srt rfl) cs_srt Tx.n_sorted (by decide +kernel) (da_cons (de_callTy (vm_setI rfl) cs_set Tx.n_set (by decide +kernel) (da_cons (de_lc (own := [("lane", 10), ("pin", 11)]) rfl ND (di_any (de_var 9)) (blkOk_by (by kernel_rfl)) (by decide) (fun b => dg_tup rfl (dgs_cons (dg_name 10 ND) (dgs_cons (dg_name 11 ND) (dgs_nil)))) (fun b => dts_nil) (fun b => de_var 11)) (da_nil))) (da_nil))) (da_nil))) (nomark _))))))) (dss_one (ds_ret (de_bl))) (dss_nil)) (dss_cons (ds_if (DW.t (dw_or (dt_cmpM (op_neI G_Plan_eq Tx.me_Plan_eq.at_ Tx.ne_Plan Tx.mo_Plan Tx.me_Plan_eq.fn Tx.b_Plan_eq (hr.mono (by decide))) (opm_eqI (c := 21)) (de_call tk G_bare_plan (hr.mono (by decide)) Tx.m_bare_plan Tx.F_bare_plan.kp Tx.b_bare_plan (da_cons (de_var 3) (da_nil))) (de_make false 21 tk Tx.mk_Plan (insB_ok Tx.in_Plan) G_Plan_init (hr.mono (by decide)) Tx.a_Plan Tx.b_Plan_init (da_cons (de_bin op_mulU ops_mulU (de_tup (da_cons (de_non) (da_nil))) (de_fld 0 (by decide : 0 < 67) (de_var 3))) (da_cons (de_bin op_mulU ops_mulU (de_tup (da_cons (de_tup (da_nil)) (da_nil))) (de_fld 1 (by decide : 1 < 67) (de_var 3))) (da_nil)))) (nomark _)) (dw_or (dt_cmp op_notN ops_isNN (de_call tk G__law_refused (hr.mono (by decide)) Tx.m__law_refused Tx.F__law_refused.kp Tx.b__law_refused (da_cons (de_int) (da_cons (de_lst (da_cons (de_var 3) (da_cons (de_var 7) (da_nil)))) (da_nil)))) (de_non) (nomark _)) (dw_or1 (dt_cmpM (op_neI G_Plan_eq Tx.me_Plan_eq.at_ Tx.ne_Plan Tx.mo_Plan Tx.me_Plan_eq.fn Tx.b_Plan_eq (hr.mono (by decide))) (opm_eqI (c := 21)) (de_var 7) (de_make false 21 tk Tx.mk_Plan (insB_ok Tx.in_Plan) G_Plan_init (hr.mono (by decide)) Tx.a_Plan Tx.b_Plan_init (da_cons (de_fld 5 (by decide : 5 < 67) (de_var 7)) (da_cons (de_fld 6 (by decide : 6 < 67) (de_var 7)) (da_nil)))) (nomark _)))))) (dss_one (ds_ret (de_bl))) (dss_nil)) (dss_one (ds_ret (de_and (de_call tk G__law_changes (hr.mono (by decide)) Tx.m__law_changes Tx.F__law_changes.kp Tx.b__law_changes (da_cons (de_var 1) (da_cons (de_var 3) (da_cons (de_var 7) (da_nil))))) (de_one (de_call tk G__law_wrong (hr.mono (by decide)) Tx.m__law_wrong Tx.F__law_wrong.kp Tx.b__law_wrong (da_cons (de_var 1) (da_cons (de_var 3) (da_cons (de_var 7) (da_nil)))))))))))))))))))))))) (fun _ _ _ h => h)
end
end LW
set_option Elab.async false
set_option maxRecDepth 100000
set_option maxHeartbeats 4000000
set_option linter.all false
set_option autoImplicit false
namespace LW
open PySem L2 VM VE
theorem all_mk {l : PySem.W.OpenLaw} {w : World} {K : PySem.W.Frag} {h : Heap} {mg : Str → Option Value} {fa : Addr} {C_CityError C_InvalidCity C_InvalidPlan C_City C_Plan e_CityError cc_CityError co_CityError N_CityError e_InvalidCity cc_InvalidCity co_InvalidCity N_InvalidCity e_InvalidPlan cc_InvalidPlan co_InvalidPlan N_InvalidPlan f__law_start f_is_from_zero f_City_init f__law_pins f_is_joined_row f_is_block_cell f_Plan_init f__law_pick f_City_pin_count f__law_drawn f_Plan_eq f_changed_plan f_plan_misfit f_check_plan f__law_refused f__law_changes f_City_numbers f_City_eq f__law_wrong f_block_of f_City_out_pin f_pin_name f_position_of f_is_telling f__law_same f_cell_blocks f_joints_of f_joined_pins f_bare_plan f__law_place_of f_City_block_pin f_law : Addr}
    {od__law_start an__law_start od_is_from_zero an_is_from_zero od_City_init an_City_init od__law_pins an__law_pins od_is_joined_row an_is_joined_row od_is_block_cell an_is_block_cell od_Plan_init an_Plan_init od__law_pick an__law_pick od_City_pin_count an_City_pin_count od__law_drawn an__law_drawn od_Plan_eq an_Plan_eq od_changed_plan an_changed_plan od_plan_misfit an_plan_misfit od_check_plan an_check_plan od__law_refused an__law_refused od__law_changes an__law_changes od_City_numbers an_City_numbers od_City_eq an_City_eq od__law_wrong an__law_wrong od_block_of an_block_of od_City_out_pin an_City_out_pin od_pin_name an_pin_name od_position_of an_position_of od_is_telling an_is_telling od__law_same an__law_same od_cell_blocks an_cell_blocks od_joints_of an_joints_of od_joined_pins an_joined_pins od_bare_plan an_bare_plan od__law_place_of an__law_place_of od_City_block_pin an_City_block_pin od_law an_law : Option Addr} {sl__law_start sl_is_from_zero sl_City_init sl__law_pins sl_is_joined_row sl_is_block_cell sl_Plan_init sl__law_pick sl_City_pin_count sl__law_drawn sl_Plan_eq sl_changed_plan sl_plan_misfit sl_check_plan sl__law_refused sl__law_changes sl_City_numbers sl_City_eq sl__law_wrong sl_block_of sl_City_out_pin sl_pin_name sl_position_of sl_is_telling sl__law_same sl_cell_blocks sl_joints_of sl_joined_pins sl_bare_plan sl__law_place_of sl_City_block_pin sl_law : Array (Option Value)} {oc__law_start kV__law_start dc__law_start pm__law_start cd__law_start ct__law_start oc_is_from_zero kV_is_from_zero dc_is_from_zero pm_is_from_zero cd_is_from_zero ct_is_from_zero oc_City_init kV_City_init dc_City_init pm_City_init cd_City_init ct_City_init oc__law_pins kV__law_pins dc__law_pins pm__law_pins cd__law_pins ct__law_pins oc_is_joined_row kV_is_joined_row dc_is_joined_row pm_is_joined_row cd_is_joined_row ct_is_joined_row oc_is_block_cell kV_is_block_cell dc_is_block_cell pm_is_block_cell cd_is_block_cell ct_is_block_cell oc_Plan_init kV_Plan_init dc_Plan_init pm_Plan_init cd_Plan_init ct_Plan_init oc__law_pick kV__law_pick dc__law_pick pm__law_pick cd__law_pick ct__law_pick oc_City_pin_count kV_City_pin_count dc_City_pin_count pm_City_pin_count cd_City_pin_count ct_City_pin_count oc__law_drawn kV__law_drawn dc__law_drawn pm__law_drawn cd__law_drawn ct__law_drawn oc_Plan_eq kV_Plan_eq dc_Plan_eq pm_Plan_eq cd_Plan_eq ct_Plan_eq oc_changed_plan kV_changed_plan dc_changed_plan pm_changed_plan cd_changed_plan ct_changed_plan oc_plan_misfit kV_plan_misfit dc_plan_misfit pm_plan_misfit cd_plan_misfit ct_plan_misfit oc_check_plan kV_check_plan dc_check_plan pm_check_plan cd_check_plan ct_check_plan oc__law_refused kV__law_refused dc__law_refused pm__law_refused cd__law_refused ct__law_refused oc__law_changes kV__law_changes dc__law_changes pm__law_changes cd__law_changes ct__law_changes oc_City_numbers kV_City_numbers dc_City_numbers pm_City_numbers cd_City_numbers ct_City_numbers oc_City_eq kV_City_eq dc_City_eq pm_City_eq cd_City_eq ct_City_eq oc__law_wrong kV__law_wrong dc__law_wrong pm__law_wrong cd__law_wrong ct__law_wrong oc_block_of kV_block_of dc_block_of pm_block_of cd_block_of ct_block_of oc_City_out_pin kV_City_out_pin dc_City_out_pin pm_City_out_pin cd_City_out_pin ct_City_out_pin oc_pin_name kV_pin_name dc_pin_name pm_pin_name cd_pin_name ct_pin_name oc_position_of kV_position_of dc_position_of pm_position_of cd_position_of ct_position_of oc_is_telling kV_is_telling dc_is_telling pm_is_telling cd_is_telling ct_is_telling oc__law_same kV__law_same dc__law_same pm__law_same cd__law_same ct__law_same oc_cell_blocks kV_cell_blocks dc_cell_blocks pm_cell_blocks cd_cell_blocks ct_cell_blocks oc_joints_of kV_joints_of dc_joints_of pm_joints_of cd_joints_of ct_joints_of oc_joined_pins kV_joined_pins dc_joined_pins pm_joined_pins cd_joined_pins ct_joined_pins oc_bare_plan kV_bare_plan dc_bare_plan pm_bare_plan cd_bare_plan ct_bare_plan oc__law_place_of kV__law_place_of dc__law_place_of pm__law_place_of cd__law_place_of ct__law_place_of oc_City_block_pin kV_City_block_pin dc_City_block_pin pm_City_block_pin cd_City_block_pin ct_City_block_pin oc_law kV_law dc_law pm_law cd_law ct_law : Value} {t_MOST_THINGS : Tok}
    {nm_CityError q_CityError : Str} {bs_CityError bm_CityError sub_CityError : List Value} {sn_CityError : List Str} {ab_CityError : Bool} {col_CityError : Option Bool} {dd_CityError od_CityError an_CityError xd_CityError yd_CityError : Option Addr} {k0_CityError k1_CityError k2_CityError k3_CityError k5_CityError : Option Value} {sl_CityError xs_CityError ys_CityError : Array (Option Value)} {vs_CityError : Array Value} {oc_CityError dc_CityError pm_CityError ct_CityError xc_CityError yc_CityError : Value} {tf_CityError : Tok}
    {nm_InvalidCity q_InvalidCity : Str} {bs_InvalidCity bm_InvalidCity sub_InvalidCity : List Value} {sn_InvalidCity : List Str} {ab_InvalidCity : Bool} {col_InvalidCity : Option Bool} {dd_InvalidCity od_InvalidCity an_InvalidCity xd_InvalidCity yd_InvalidCity : Option Addr} {k0_InvalidCity k1_InvalidCity k2_InvalidCity k3_InvalidCity k5_InvalidCity : Option Value} {sl_InvalidCity xs_InvalidCity ys_InvalidCity : Array (Option Value)} {vs_InvalidCity : Array Value} {oc_InvalidCity dc_InvalidCity pm_InvalidCity ct_InvalidCity xc_InvalidCity yc_InvalidCity : Value} {tf_InvalidCity : Tok}
    {nm_InvalidPlan q_InvalidPlan : Str} {bs_InvalidPlan bm_InvalidPlan sub_InvalidPlan : List Value} {sn_InvalidPlan : List Str} {ab_InvalidPlan : Bool} {col_InvalidPlan : Option Bool} {dd_InvalidPlan od_InvalidPlan an_InvalidPlan xd_InvalidPlan yd_InvalidPlan : Option Addr} {k0_InvalidPlan k1_InvalidPlan k2_InvalidPlan k3_InvalidPlan k5_InvalidPlan : Option Value} {sl_InvalidPlan xs_InvalidPlan ys_InvalidPlan : Array (Option Value)} {vs_InvalidPlan : Array Value} {oc_InvalidPlan dc_InvalidPlan pm_InvalidPlan ct_InvalidPlan xc_InvalidPlan yc_InvalidPlan : Value} {tf_InvalidPlan : Tok} (X : K.In h) (G : h.Ns mainGlobals mg) (hfa : mg "law" = some (.ref fa))
    (a_CityError : PySem.W.nsIn K mainGlobals "CityError" = some (some (.ref C_CityError)))
    (a_InvalidCity : PySem.W.nsIn K mainGlobals "InvalidCity" = some (some (.ref C_InvalidCity)))
    (a_InvalidPlan : PySem.W.nsIn K mainGlobals "InvalidPlan" = some (some (.ref C_InvalidPlan)))
    (a_City : PySem.W.nsIn K mainGlobals "City" = some (some (.ref C_City)))
    (a_Plan : PySem.W.nsIn K mainGlobals "Plan" = some (some (.ref C_Plan)))
    (L_CityError : K.lookup C_CityError = some (excClassObj nm_CityError q_CityError C_CityError N_CityError bs_CityError bm_CityError true sn_CityError sub_CityError ab_CityError col_CityError dd_CityError k0_CityError k1_CityError k2_CityError k3_CityError k5_CityError "ValueError.__new__"))
    (B_CityError : errB K C_CityError = true)
    (R_CityError : PySem.HandSPX.refsVE bm_CityError = true)
    (I_CityError : PySem.W.findIn K (.ref C_CityError) "__init__" = some (some (.ref e_CityError)))
    (Y_CityError : PySem.W.typeIn K (.ref e_CityError) = some (.type "function"))
    (V_CityError : PySem.W.fnIn K e_CityError = true)
    (LF_CityError : K.lookup e_CityError = some ⟨oc_CityError, od_CityError, .func (PySem.W.fnX "__init__" "CityError.__init__" (VE.supAr ⟨4, 17, 4, 21⟩ ⟨4, 23, 4, 28⟩) (defBody s_CityError_init) VE.supSc [("__class__", cc_CityError)] .none .none dc_CityError pm_CityError an_CityError (.ref co_CityError) ct_CityError), sl_CityError⟩)
    (LC_CityError : K.lookup cc_CityError = some ⟨xc_CityError, xd_CityError, .cell (some (.ref C_CityError)), xs_CityError⟩)
    (CO_CityError : PySem.W.codeIn K (.ref co_CityError) "CityError.__init__" = true)
    (LO_CityError : K.lookup co_CityError = some ⟨yc_CityError, yd_CityError, .fields vs_CityError, ys_CityError⟩)
    (VS_CityError : vs_CityError[2]? = some (.str l.prog.main.file tf_CityError))
    (CI_CityError : PySem.W.isClsIn K C_CityError = true)
    (M1_CityError : PySem.W.mroIn K C_CityError (.ref C_CityError) = some true)
    (S1_CityError : PySem.W.ks_superIn K C_CityError C_CityError "__init__" = some (some (.builtin "ValueError.__init__")))
    (L_InvalidCity : K.lookup C_InvalidCity = some (excClassObj nm_InvalidCity q_InvalidCity C_InvalidCity N_InvalidCity bs_InvalidCity bm_InvalidCity true sn_InvalidCity sub_InvalidCity ab_InvalidCity col_InvalidCity dd_InvalidCity k0_InvalidCity k1_InvalidCity k2_InvalidCity k3_InvalidCity k5_InvalidCity "ValueError.__new__"))
    (B_InvalidCity : errB K C_InvalidCity = true)
    (R_InvalidCity : PySem.HandSPX.refsVE bm_InvalidCity = true)
    (I_InvalidCity : PySem.W.findIn K (.ref C_InvalidCity) "__init__" = some (some (.ref e_InvalidCity)))
    (Y_InvalidCity : PySem.W.typeIn K (.ref e_InvalidCity) = some (.type "function"))
    (V_InvalidCity : PySem.W.fnIn K e_InvalidCity = true)
    (LF_InvalidCity : K.lookup e_InvalidCity = some ⟨oc_InvalidCity, od_InvalidCity, .func (PySem.W.fnX "__init__" "InvalidCity.__init__" (VE.supAr ⟨10, 17, 10, 21⟩ ⟨10, 23, 10, 28⟩) (defBody s_InvalidCity_init) VE.supSc [("__class__", cc_InvalidCity)] .none .none dc_InvalidCity pm_InvalidCity an_InvalidCity (.ref co_InvalidCity) ct_InvalidCity), sl_InvalidCity⟩)
    (LC_InvalidCity : K.lookup cc_InvalidCity = some ⟨xc_InvalidCity, xd_InvalidCity, .cell (some (.ref C_InvalidCity)), xs_InvalidCity⟩)
    (CO_InvalidCity : PySem.W.codeIn K (.ref co_InvalidCity) "InvalidCity.__init__" = true)
    (LO_InvalidCity : K.lookup co_InvalidCity = some ⟨yc_InvalidCity, yd_InvalidCity, .fields vs_InvalidCity, ys_InvalidCity⟩)
    (VS_InvalidCity : vs_InvalidCity[2]? = some (.str l.prog.main.file tf_InvalidCity))
    (CI_InvalidCity : PySem.W.isClsIn K C_InvalidCity = true)
    (M1_InvalidCity : PySem.W.mroIn K C_InvalidCity (.ref C_InvalidCity) = some true)
    (S1_InvalidCity : PySem.W.ks_superIn K C_InvalidCity C_InvalidCity "__init__" = some (some (.ref e_CityError)))
    (M2_InvalidCity : PySem.W.mroIn K C_InvalidCity (.ref C_CityError) = some true)
    (S2_InvalidCity : PySem.W.ks_superIn K C_InvalidCity C_CityError "__init__" = some (some (.builtin "ValueError.__init__")))
    (L_InvalidPlan : K.lookup C_InvalidPlan = some (excClassObj nm_InvalidPlan q_InvalidPlan C_InvalidPlan N_InvalidPlan bs_InvalidPlan bm_InvalidPlan true sn_InvalidPlan sub_InvalidPlan ab_InvalidPlan col_InvalidPlan dd_InvalidPlan k0_InvalidPlan k1_InvalidPlan k2_InvalidPlan k3_InvalidPlan k5_InvalidPlan "ValueError.__new__"))
    (B_InvalidPlan : errB K C_InvalidPlan = true)
    (R_InvalidPlan : PySem.HandSPX.refsVE bm_InvalidPlan = true)
    (I_InvalidPlan : PySem.W.findIn K (.ref C_InvalidPlan) "__init__" = some (some (.ref e_InvalidPlan)))
    (Y_InvalidPlan : PySem.W.typeIn K (.ref e_InvalidPlan) = some (.type "function"))
    (V_InvalidPlan : PySem.W.fnIn K e_InvalidPlan = true)
    (LF_InvalidPlan : K.lookup e_InvalidPlan = some ⟨oc_InvalidPlan, od_InvalidPlan, .func (PySem.W.fnX "__init__" "InvalidPlan.__init__" (VE.supAr ⟨15, 17, 15, 21⟩ ⟨15, 23, 15, 28⟩) (defBody s_InvalidPlan_init) VE.supSc [("__class__", cc_InvalidPlan)] .none .none dc_InvalidPlan pm_InvalidPlan an_InvalidPlan (.ref co_InvalidPlan) ct_InvalidPlan), sl_InvalidPlan⟩)
    (LC_InvalidPlan : K.lookup cc_InvalidPlan = some ⟨xc_InvalidPlan, xd_InvalidPlan, .cell (some (.ref C_InvalidPlan)), xs_InvalidPlan⟩)
    (CO_InvalidPlan : PySem.W.codeIn K (.ref co_InvalidPlan) "InvalidPlan.__init__" = true)
    (LO_InvalidPlan : K.lookup co_InvalidPlan = some ⟨yc_InvalidPlan, yd_InvalidPlan, .fields vs_InvalidPlan, ys_InvalidPlan⟩)
    (VS_InvalidPlan : vs_InvalidPlan[2]? = some (.str l.prog.main.file tf_InvalidPlan))
    (CI_InvalidPlan : PySem.W.isClsIn K C_InvalidPlan = true)
    (M1_InvalidPlan : PySem.W.mroIn K C_InvalidPlan (.ref C_InvalidPlan) = some true)
    (S1_InvalidPlan : PySem.W.ks_superIn K C_InvalidPlan C_InvalidPlan "__init__" = some (some (.ref e_CityError)))
    (M2_InvalidPlan : PySem.W.mroIn K C_InvalidPlan (.ref C_CityError) = some true)
    (S2_InvalidPlan : PySem.W.ks_superIn K C_InvalidPlan C_CityError "__init__" = some (some (.builtin "ValueError.__init__")))
    (OPC : PySem.W.nsIn K cStatics "thirdparty.any" = some none)
    (TOP : (l.prog.main.scope.names.lookup ("super" : Str)).isSome = false)
    (z_super : PySem.W.nsIn K mainGlobals "super" = some none)
    (xb_InvalidCity : exmB K (.ref C_InvalidCity) [(C_CityError, false), (C_InvalidCity, true), (C_InvalidPlan, false)] = true)
    (xb_InvalidPlan : exmB K (.ref C_InvalidPlan) [(C_CityError, false), (C_InvalidCity, false), (C_InvalidPlan, true)] = true)
    (in_City : insB K C_City = true)
    (no_City : noB K C_City ["ins", "blocks", "outs", "lanes"] = true)
    (mk_City : PySem.W.makesIn K C_City = true)
    (kc_City : PySem.W.keepIn K (.ref C_City) = true)
    (in_Plan : insB K C_Plan = true)
    (no_Plan : noB K C_Plan ["cells", "joins"] = true)
    (mk_Plan : PySem.W.makesIn K C_Plan = true)
    (kc_Plan : PySem.W.keepIn K (.ref C_Plan) = true)
    (ty_City : tyB K C_City = true)
    (tb_City : tabB K C_City [(C_City, true), (C_Plan, false)] = true)
    (ty_Plan : tyB K C_Plan = true)
    (tb_Plan : tabB K C_Plan [(C_City, false), (C_Plan, true)] = true)
    (ne_City : PySem.W.findIn K (.ref C_City) "__ne__" = some (some (.builtin "object.__ne__")))
    (mo_City : PySem.W.mroIn K C_City (.type "object") = some true)
    (ne_Plan : PySem.W.findIn K (.ref C_Plan) "__ne__" = some (some (.builtin "object.__ne__")))
    (mo_Plan : PySem.W.mroIn K C_Plan (.type "object") = some true)
    (a__law_start : PySem.W.nsIn K mainGlobals "_law_start" = some (some (.ref f__law_start)))
    (l__law_start : K.lookup f__law_start = some ⟨oc__law_start, od__law_start, .func (PySem.W.fnOf "_law_start" "_law_start" (defArgs s__law_start) (defBody s__law_start) (defScope s__law_start) .none kV__law_start dc__law_start pm__law_start an__law_start cd__law_start ct__law_start), sl__law_start⟩)
    (c__law_start : PySem.W.codeIn K cd__law_start "_law_start" = true)
    (k__law_start : PySem.W.keepIn K (.ref f__law_start) = true)
    (a_is_from_zero : PySem.W.nsIn K mainGlobals "is_from_zero" = some (some (.ref f_is_from_zero)))
    (l_is_from_zero : K.lookup f_is_from_zero = some ⟨oc_is_from_zero, od_is_from_zero, .func (PySem.W.fnOf "is_from_zero" "is_from_zero" (defArgs s_is_from_zero) (defBody s_is_from_zero) (defScope s_is_from_zero) .none kV_is_from_zero dc_is_from_zero pm_is_from_zero an_is_from_zero cd_is_from_zero ct_is_from_zero), sl_is_from_zero⟩)
    (c_is_from_zero : PySem.W.codeIn K cd_is_from_zero "is_from_zero" = true)
    (k_is_from_zero : PySem.W.keepIn K (.ref f_is_from_zero) = true)
    (i_City_init : PySem.W.findIn K (.ref C_City) "__init__" = some (some (.ref f_City_init)))
    (l_City_init : K.lookup f_City_init = some ⟨oc_City_init, od_City_init, .func (PySem.W.fnOf "__init__" "City.__init__" (defArgs s_City_init) (defBody s_City_init) (defScope s_City_init) .none kV_City_init dc_City_init pm_City_init an_City_init cd_City_init ct_City_init), sl_City_init⟩)
    (c_City_init : PySem.W.codeIn K cd_City_init "City.__init__" = true)
    (k_City_init : PySem.W.keepIn K (.ref f_City_init) = true)
    (fn_City_init : PySem.W.isFn K (.ref f_City_init) = true)
    (a__law_pins : PySem.W.nsIn K mainGlobals "_law_pins" = some (some (.ref f__law_pins)))
    (l__law_pins : K.lookup f__law_pins = some ⟨oc__law_pins, od__law_pins, .func (PySem.W.fnOf "_law_pins" "_law_pins" (defArgs s__law_pins) (defBody s__law_pins) (defScope s__law_pins) .none kV__law_pins dc__law_pins pm__law_pins an__law_pins cd__law_pins ct__law_pins), sl__law_pins⟩)
    (c__law_pins : PySem.W.codeIn K cd__law_pins "_law_pins" = true)
    (k__law_pins : PySem.W.keepIn K (.ref f__law_pins) = true)
    (a_is_joined_row : PySem.W.nsIn K mainGlobals "is_joined_row" = some (some (.ref f_is_joined_row)))
    (l_is_joined_row : K.lookup f_is_joined_row = some ⟨oc_is_joined_row, od_is_joined_row, .func (PySem.W.fnOf "is_joined_row" "is_joined_row" (defArgs s_is_joined_row) (defBody s_is_joined_row) (defScope s_is_joined_row) .none kV_is_joined_row dc_is_joined_row pm_is_joined_row an_is_joined_row cd_is_joined_row ct_is_joined_row), sl_is_joined_row⟩)
    (c_is_joined_row : PySem.W.codeIn K cd_is_joined_row "is_joined_row" = true)
    (k_is_joined_row : PySem.W.keepIn K (.ref f_is_joined_row) = true)
    (a_is_block_cell : PySem.W.nsIn K mainGlobals "is_block_cell" = some (some (.ref f_is_block_cell)))
    (l_is_block_cell : K.lookup f_is_block_cell = some ⟨oc_is_block_cell, od_is_block_cell, .func (PySem.W.fnOf "is_block_cell" "is_block_cell" (defArgs s_is_block_cell) (defBody s_is_block_cell) (defScope s_is_block_cell) .none kV_is_block_cell dc_is_block_cell pm_is_block_cell an_is_block_cell cd_is_block_cell ct_is_block_cell), sl_is_block_cell⟩)
    (c_is_block_cell : PySem.W.codeIn K cd_is_block_cell "is_block_cell" = true)
    (k_is_block_cell : PySem.W.keepIn K (.ref f_is_block_cell) = true)
    (i_Plan_init : PySem.W.findIn K (.ref C_Plan) "__init__" = some (some (.ref f_Plan_init)))
    (l_Plan_init : K.lookup f_Plan_init = some ⟨oc_Plan_init, od_Plan_init, .func (PySem.W.fnOf "__init__" "Plan.__init__" (defArgs s_Plan_init) (defBody s_Plan_init) (defScope s_Plan_init) .none kV_Plan_init dc_Plan_init pm_Plan_init an_Plan_init cd_Plan_init ct_Plan_init), sl_Plan_init⟩)
    (c_Plan_init : PySem.W.codeIn K cd_Plan_init "Plan.__init__" = true)
    (k_Plan_init : PySem.W.keepIn K (.ref f_Plan_init) = true)
    (fn_Plan_init : PySem.W.isFn K (.ref f_Plan_init) = true)
    (a__law_pick : PySem.W.nsIn K mainGlobals "_law_pick" = some (some (.ref f__law_pick)))
    (l__law_pick : K.lookup f__law_pick = some ⟨oc__law_pick, od__law_pick, .func (PySem.W.fnOf "_law_pick" "_law_pick" (defArgs s__law_pick) (defBody s__law_pick) (defScope s__law_pick) .none kV__law_pick dc__law_pick pm__law_pick an__law_pick cd__law_pick ct__law_pick), sl__law_pick⟩)
    (c__law_pick : PySem.W.codeIn K cd__law_pick "_law_pick" = true)
    (k__law_pick : PySem.W.keepIn K (.ref f__law_pick) = true)
    (i_City_pin_count : PySem.W.findIn K (.ref C_City) "pin_count" = some (some (.ref f_City_pin_count)))
    (l_City_pin_count : K.lookup f_City_pin_count = some ⟨oc_City_pin_count, od_City_pin_count, .func (PySem.W.fnOf "pin_count" "City.pin_count" (defArgs s_City_pin_count) (defBody s_City_pin_count) (defScope s_City_pin_count) .none kV_City_pin_count dc_City_pin_count pm_City_pin_count an_City_pin_count cd_City_pin_count ct_City_pin_count), sl_City_pin_count⟩)
    (c_City_pin_count : PySem.W.codeIn K cd_City_pin_count "City.pin_count" = true)
    (k_City_pin_count : PySem.W.keepIn K (.ref f_City_pin_count) = true)
    (fn_City_pin_count : PySem.W.isFn K (.ref f_City_pin_count) = true)
    (a__law_drawn : PySem.W.nsIn K mainGlobals "_law_drawn" = some (some (.ref f__law_drawn)))
    (l__law_drawn : K.lookup f__law_drawn = some ⟨oc__law_drawn, od__law_drawn, .func (PySem.W.fnOf "_law_drawn" "_law_drawn" (defArgs s__law_drawn) (defBody s__law_drawn) (defScope s__law_drawn) .none kV__law_drawn dc__law_drawn pm__law_drawn an__law_drawn cd__law_drawn ct__law_drawn), sl__law_drawn⟩)
    (c__law_drawn : PySem.W.codeIn K cd__law_drawn "_law_drawn" = true)
    (k__law_drawn : PySem.W.keepIn K (.ref f__law_drawn) = true)
    (i_Plan_eq : PySem.W.findIn K (.ref C_Plan) "__eq__" = some (some (.ref f_Plan_eq)))
    (l_Plan_eq : K.lookup f_Plan_eq = some ⟨oc_Plan_eq, od_Plan_eq, .func (PySem.W.fnOf "__eq__" "Plan.__eq__" (defArgs s_Plan_eq) (defBody s_Plan_eq) (defScope s_Plan_eq) .none kV_Plan_eq dc_Plan_eq pm_Plan_eq an_Plan_eq cd_Plan_eq ct_Plan_eq), sl_Plan_eq⟩)
    (c_Plan_eq : PySem.W.codeIn K cd_Plan_eq "Plan.__eq__" = true)
    (k_Plan_eq : PySem.W.keepIn K (.ref f_Plan_eq) = true)
    (fn_Plan_eq : PySem.W.isFn K (.ref f_Plan_eq) = true)
    (a_changed_plan : PySem.W.nsIn K mainGlobals "changed_plan" = some (some (.ref f_changed_plan)))
    (l_changed_plan : K.lookup f_changed_plan = some ⟨oc_changed_plan, od_changed_plan, .func (PySem.W.fnOf "changed_plan" "changed_plan" (defArgs s_changed_plan) (defBody s_changed_plan) (defScope s_changed_plan) .none kV_changed_plan dc_changed_plan pm_changed_plan an_changed_plan cd_changed_plan ct_changed_plan), sl_changed_plan⟩)
    (c_changed_plan : PySem.W.codeIn K cd_changed_plan "changed_plan" = true)
    (k_changed_plan : PySem.W.keepIn K (.ref f_changed_plan) = true)
    (a_plan_misfit : PySem.W.nsIn K mainGlobals "plan_misfit" = some (some (.ref f_plan_misfit)))
    (l_plan_misfit : K.lookup f_plan_misfit = some ⟨oc_plan_misfit, od_plan_misfit, .func (PySem.W.fnOf "plan_misfit" "plan_misfit" (defArgs s_plan_misfit) (defBody s_plan_misfit) (defScope s_plan_misfit) .none kV_plan_misfit dc_plan_misfit pm_plan_misfit an_plan_misfit cd_plan_misfit ct_plan_misfit), sl_plan_misfit⟩)
    (c_plan_misfit : PySem.W.codeIn K cd_plan_misfit "plan_misfit" = true)
    (k_plan_misfit : PySem.W.keepIn K (.ref f_plan_misfit) = true)
    (a_check_plan : PySem.W.nsIn K mainGlobals "check_plan" = some (some (.ref f_check_plan)))
    (l_check_plan : K.lookup f_check_plan = some ⟨oc_check_plan, od_check_plan, .func (PySem.W.fnOf "check_plan" "check_plan" (defArgs s_check_plan) (defBody s_check_plan) (defScope s_check_plan) .none kV_check_plan dc_check_plan pm_check_plan an_check_plan cd_check_plan ct_check_plan), sl_check_plan⟩)
    (c_check_plan : PySem.W.codeIn K cd_check_plan "check_plan" = true)
    (k_check_plan : PySem.W.keepIn K (.ref f_check_plan) = true)
    (a__law_refused : PySem.W.nsIn K mainGlobals "_law_refused" = some (some (.ref f__law_refused)))
    (l__law_refused : K.lookup f__law_refused = some ⟨oc__law_refused, od__law_refused, .func (PySem.W.fnOf "_law_refused" "_law_refused" (defArgs s__law_refused) (defBody s__law_refused) (defScope s__law_refused) .none kV__law_refused dc__law_refused pm__law_refused an__law_refused cd__law_refused ct__law_refused), sl__law_refused⟩)
    (c__law_refused : PySem.W.codeIn K cd__law_refused "_law_refused" = true)
    (k__law_refused : PySem.W.keepIn K (.ref f__law_refused) = true)
    (a__law_changes : PySem.W.nsIn K mainGlobals "_law_changes" = some (some (.ref f__law_changes)))
    (l__law_changes : K.lookup f__law_changes = some ⟨oc__law_changes, od__law_changes, .func (PySem.W.fnOf "_law_changes" "_law_changes" (defArgs s__law_changes) (defBody s__law_changes) (defScope s__law_changes) .none kV__law_changes dc__law_changes pm__law_changes an__law_changes cd__law_changes ct__law_changes), sl__law_changes⟩)
    (c__law_changes : PySem.W.codeIn K cd__law_changes "_law_changes" = true)
    (k__law_changes : PySem.W.keepIn K (.ref f__law_changes) = true)
    (i_City_numbers : PySem.W.findIn K (.ref C_City) "numbers" = some (some (.ref f_City_numbers)))
    (l_City_numbers : K.lookup f_City_numbers = some ⟨oc_City_numbers, od_City_numbers, .func (PySem.W.fnOf "numbers" "City.numbers" (defArgs s_City_numbers) (defBody s_City_numbers) (defScope s_City_numbers) .none kV_City_numbers dc_City_numbers pm_City_numbers an_City_numbers cd_City_numbers ct_City_numbers), sl_City_numbers⟩)
    (c_City_numbers : PySem.W.codeIn K cd_City_numbers "City.numbers" = true)
    (k_City_numbers : PySem.W.keepIn K (.ref f_City_numbers) = true)
    (fn_City_numbers : PySem.W.isFn K (.ref f_City_numbers) = true)
    (i_City_eq : PySem.W.findIn K (.ref C_City) "__eq__" = some (some (.ref f_City_eq)))
    (l_City_eq : K.lookup f_City_eq = some ⟨oc_City_eq, od_City_eq, .func (PySem.W.fnOf "__eq__" "City.__eq__" (defArgs s_City_eq) (defBody s_City_eq) (defScope s_City_eq) .none kV_City_eq dc_City_eq pm_City_eq an_City_eq cd_City_eq ct_City_eq), sl_City_eq⟩)
    (c_City_eq : PySem.W.codeIn K cd_City_eq "City.__eq__" = true)
    (k_City_eq : PySem.W.keepIn K (.ref f_City_eq) = true)
    (fn_City_eq : PySem.W.isFn K (.ref f_City_eq) = true)
    (a__law_wrong : PySem.W.nsIn K mainGlobals "_law_wrong" = some (some (.ref f__law_wrong)))
    (l__law_wrong : K.lookup f__law_wrong = some ⟨oc__law_wrong, od__law_wrong, .func (PySem.W.fnOf "_law_wrong" "_law_wrong" (defArgs s__law_wrong) (defBody s__law_wrong) (defScope s__law_wrong) .none kV__law_wrong dc__law_wrong pm__law_wrong an__law_wrong cd__law_wrong ct__law_wrong), sl__law_wrong⟩)
    (c__law_wrong : PySem.W.codeIn K cd__law_wrong "_law_wrong" = true)
    (k__law_wrong : PySem.W.keepIn K (.ref f__law_wrong) = true)
    (a_block_of : PySem.W.nsIn K mainGlobals "block_of" = some (some (.ref f_block_of)))
    (l_block_of : K.lookup f_block_of = some ⟨oc_block_of, od_block_of, .func (PySem.W.fnOf "block_of" "block_of" (defArgs s_block_of) (defBody s_block_of) (defScope s_block_of) .none kV_block_of dc_block_of pm_block_of an_block_of cd_block_of ct_block_of), sl_block_of⟩)
    (c_block_of : PySem.W.codeIn K cd_block_of "block_of" = true)
    (k_block_of : PySem.W.keepIn K (.ref f_block_of) = true)
    (i_City_out_pin : PySem.W.findIn K (.ref C_City) "out_pin" = some (some (.ref f_City_out_pin)))
    (l_City_out_pin : K.lookup f_City_out_pin = some ⟨oc_City_out_pin, od_City_out_pin, .func (PySem.W.fnOf "out_pin" "City.out_pin" (defArgs s_City_out_pin) (defBody s_City_out_pin) (defScope s_City_out_pin) .none kV_City_out_pin dc_City_out_pin pm_City_out_pin an_City_out_pin cd_City_out_pin ct_City_out_pin), sl_City_out_pin⟩)
    (c_City_out_pin : PySem.W.codeIn K cd_City_out_pin "City.out_pin" = true)
    (k_City_out_pin : PySem.W.keepIn K (.ref f_City_out_pin) = true)
    (fn_City_out_pin : PySem.W.isFn K (.ref f_City_out_pin) = true)
    (a_pin_name : PySem.W.nsIn K mainGlobals "pin_name" = some (some (.ref f_pin_name)))
    (l_pin_name : K.lookup f_pin_name = some ⟨oc_pin_name, od_pin_name, .func (PySem.W.fnOf "pin_name" "pin_name" (defArgs s_pin_name) (defBody s_pin_name) (defScope s_pin_name) .none kV_pin_name dc_pin_name pm_pin_name an_pin_name cd_pin_name ct_pin_name), sl_pin_name⟩)
    (c_pin_name : PySem.W.codeIn K cd_pin_name "pin_name" = true)
    (k_pin_name : PySem.W.keepIn K (.ref f_pin_name) = true)
    (a_position_of : PySem.W.nsIn K mainGlobals "position_of" = some (some (.ref f_position_of)))
    (l_position_of : K.lookup f_position_of = some ⟨oc_position_of, od_position_of, .func (PySem.W.fnOf "position_of" "position_of" (defArgs s_position_of) (defBody s_position_of) (defScope s_position_of) .none kV_position_of dc_position_of pm_position_of an_position_of cd_position_of ct_position_of), sl_position_of⟩)
    (c_position_of : PySem.W.codeIn K cd_position_of "position_of" = true)
    (k_position_of : PySem.W.keepIn K (.ref f_position_of) = true)
    (a_is_telling : PySem.W.nsIn K mainGlobals "is_telling" = some (some (.ref f_is_telling)))
    (l_is_telling : K.lookup f_is_telling = some ⟨oc_is_telling, od_is_telling, .func (PySem.W.fnOf "is_telling" "is_telling" (defArgs s_is_telling) (defBody s_is_telling) (defScope s_is_telling) .none kV_is_telling dc_is_telling pm_is_telling an_is_telling cd_is_telling ct_is_telling), sl_is_telling⟩)
    (c_is_telling : PySem.W.codeIn K cd_is_telling "is_telling" = true)
    (k_is_telling : PySem.W.keepIn K (.ref f_is_telling) = true)
    (a__law_same : PySem.W.nsIn K mainGlobals "_law_same" = some (some (.ref f__law_same)))
    (l__law_same : K.lookup f__law_same = some ⟨oc__law_same, od__law_same, .func (PySem.W.fnOf "_law_same" "_law_same" (defArgs s__law_same) (defBody s__law_same) (defScope s__law_same) .none kV__law_same dc__law_same pm__law_same an__law_same cd__law_same ct__law_same), sl__law_same⟩)
    (c__law_same : PySem.W.codeIn K cd__law_same "_law_same" = true)
    (k__law_same : PySem.W.keepIn K (.ref f__law_same) = true)
    (a_cell_blocks : PySem.W.nsIn K mainGlobals "cell_blocks" = some (some (.ref f_cell_blocks)))
    (l_cell_blocks : K.lookup f_cell_blocks = some ⟨oc_cell_blocks, od_cell_blocks, .func (PySem.W.fnOf "cell_blocks" "cell_blocks" (defArgs s_cell_blocks) (defBody s_cell_blocks) (defScope s_cell_blocks) .none kV_cell_blocks dc_cell_blocks pm_cell_blocks an_cell_blocks cd_cell_blocks ct_cell_blocks), sl_cell_blocks⟩)
    (c_cell_blocks : PySem.W.codeIn K cd_cell_blocks "cell_blocks" = true)
    (k_cell_blocks : PySem.W.keepIn K (.ref f_cell_blocks) = true)
    (a_joints_of : PySem.W.nsIn K mainGlobals "joints_of" = some (some (.ref f_joints_of)))
    (l_joints_of : K.lookup f_joints_of = some ⟨oc_joints_of, od_joints_of, .func (PySem.W.fnOf "joints_of" "joints_of" (defArgs s_joints_of) (defBody s_joints_of) (defScope s_joints_of) .none kV_joints_of dc_joints_of pm_joints_of an_joints_of cd_joints_of ct_joints_of), sl_joints_of⟩)
    (c_joints_of : PySem.W.codeIn K cd_joints_of "joints_of" = true)
    (k_joints_of : PySem.W.keepIn K (.ref f_joints_of) = true)
    (a_joined_pins : PySem.W.nsIn K mainGlobals "joined_pins" = some (some (.ref f_joined_pins)))
    (l_joined_pins : K.lookup f_joined_pins = some ⟨oc_joined_pins, od_joined_pins, .func (PySem.W.fnOf "joined_pins" "joined_pins" (defArgs s_joined_pins) (defBody s_joined_pins) (defScope s_joined_pins) .none kV_joined_pins dc_joined_pins pm_joined_pins an_joined_pins cd_joined_pins ct_joined_pins), sl_joined_pins⟩)
    (c_joined_pins : PySem.W.codeIn K cd_joined_pins "joined_pins" = true)
    (k_joined_pins : PySem.W.keepIn K (.ref f_joined_pins) = true)
    (a_bare_plan : PySem.W.nsIn K mainGlobals "bare_plan" = some (some (.ref f_bare_plan)))
    (l_bare_plan : K.lookup f_bare_plan = some ⟨oc_bare_plan, od_bare_plan, .func (PySem.W.fnOf "bare_plan" "bare_plan" (defArgs s_bare_plan) (defBody s_bare_plan) (defScope s_bare_plan) .none kV_bare_plan dc_bare_plan pm_bare_plan an_bare_plan cd_bare_plan ct_bare_plan), sl_bare_plan⟩)
    (c_bare_plan : PySem.W.codeIn K cd_bare_plan "bare_plan" = true)
    (k_bare_plan : PySem.W.keepIn K (.ref f_bare_plan) = true)
    (a__law_place_of : PySem.W.nsIn K mainGlobals "_law_place_of" = some (some (.ref f__law_place_of)))
    (l__law_place_of : K.lookup f__law_place_of = some ⟨oc__law_place_of, od__law_place_of, .func (PySem.W.fnOf "_law_place_of" "_law_place_of" (defArgs s__law_place_of) (defBody s__law_place_of) (defScope s__law_place_of) .none kV__law_place_of dc__law_place_of pm__law_place_of an__law_place_of cd__law_place_of ct__law_place_of), sl__law_place_of⟩)
    (c__law_place_of : PySem.W.codeIn K cd__law_place_of "_law_place_of" = true)
    (k__law_place_of : PySem.W.keepIn K (.ref f__law_place_of) = true)
    (i_City_block_pin : PySem.W.findIn K (.ref C_City) "block_pin" = some (some (.ref f_City_block_pin)))
    (l_City_block_pin : K.lookup f_City_block_pin = some ⟨oc_City_block_pin, od_City_block_pin, .func (PySem.W.fnOf "block_pin" "City.block_pin" (defArgs s_City_block_pin) (defBody s_City_block_pin) (defScope s_City_block_pin) .none kV_City_block_pin dc_City_block_pin pm_City_block_pin an_City_block_pin cd_City_block_pin ct_City_block_pin), sl_City_block_pin⟩)
    (c_City_block_pin : PySem.W.codeIn K cd_City_block_pin "City.block_pin" = true)
    (k_City_block_pin : PySem.W.keepIn K (.ref f_City_block_pin) = true)
    (fn_City_block_pin : PySem.W.isFn K (.ref f_City_block_pin) = true)
    (a_law : PySem.W.nsIn K mainGlobals "law" = some (some (.ref f_law)))
    (l_law : K.lookup f_law = some ⟨oc_law, od_law, .func (PySem.W.fnOf "law" "law" (defArgs s_law) (defBody s_law) (defScope s_law) .none kV_law dc_law pm_law an_law cd_law ct_law), sl_law⟩)
    (c_law : PySem.W.codeIn K cd_law "law" = true)
    (k_law : PySem.W.keepIn K (.ref f_law) = true)
    (z_isinstance : PySem.W.nsIn K mainGlobals "isinstance" = some none)
    (z_int : PySem.W.nsIn K mainGlobals "int" = some none)
    (z_bool : PySem.W.nsIn K mainGlobals "bool" = some none)
    (z_range : PySem.W.nsIn K mainGlobals "range" = some none)
    (z_str : PySem.W.nsIn K mainGlobals "str" = some none)
    (z_tuple : PySem.W.nsIn K mainGlobals "tuple" = some none)
    (z_all : PySem.W.nsIn K mainGlobals "all" = some none)
    (z_len : PySem.W.nsIn K mainGlobals "len" = some none)
    (z_abs : PySem.W.nsIn K mainGlobals "abs" = some none)
    (z_sorted : PySem.W.nsIn K mainGlobals "sorted" = some none)
    (z_set : PySem.W.nsIn K mainGlobals "set" = some none)
    (z_max : PySem.W.nsIn K mainGlobals "max" = some none)
    (z_list : PySem.W.nsIn K mainGlobals "list" = some none)
    (z_min : PySem.W.nsIn K mainGlobals "min" = some none)
    (u_MOST_THINGS : PySem.W.nsIn K mainGlobals "MOST_THINGS" = some (some (.int 200 t_MOST_THINGS)))
    : ∃ fd : FuncData, (∀ (s : Shared) (v : Value), BindsTo s fd ⟨[v], []⟩ [("script", v)]) ∧ ∀ base : Heap, K.In base → base.Ns mainGlobals mg → FnOk l.prog w K mg base (L2.CX l.prog w) 11 fa fd ["script"] (spLaw K) := by
  have e := hfa.symm.trans (PySem.W.mg_of X G a_law)
  cases e
  have F__law_start := fun_mk (st := s__law_start) l__law_start c__law_start k__law_start
  have F_is_from_zero := fun_mk (st := s_is_from_zero) l_is_from_zero c_is_from_zero k_is_from_zero
  have F_City_init := fun_mk (st := s_City_init) l_City_init c_City_init k_City_init
  have F__law_pins := fun_mk (st := s__law_pins) l__law_pins c__law_pins k__law_pins
  have F_is_joined_row := fun_mk (st := s_is_joined_row) l_is_joined_row c_is_joined_row k_is_joined_row
  have F_is_block_cell := fun_mk (st := s_is_block_cell) l_is_block_cell c_is_block_cell k_is_block_cell
  have F_Plan_init := fun_mk (st := s_Plan_init) l_Plan_init c_Plan_init k_Plan_init
  have F__law_pick := fun_mk (st := s__law_pick) l__law_pick c__law_pick k__law_pick
  have F_City_pin_count := fun_mk (st := s_City_pin_count) l_City_pin_count c_City_pin_count k_City_pin_count
  have F__law_drawn := fun_mk (st := s__law_drawn) l__law_drawn c__law_drawn k__law_drawn
  have F_Plan_eq := fun_mk (st := s_Plan_eq) l_Plan_eq c_Plan_eq k_Plan_eq
  have F_changed_plan := fun_mk (st := s_changed_plan) l_changed_plan c_changed_plan k_changed_plan
  have F_plan_misfit := fun_mk (st := s_plan_misfit) l_plan_misfit c_plan_misfit k_plan_misfit
  have F_check_plan := fun_mk (st := s_check_plan) l_check_plan c_check_plan k_check_plan
  have F__law_refused := fun_mk (st := s__law_refused) l__law_refused c__law_refused k__law_refused
  have F__law_changes := fun_mk (st := s__law_changes) l__law_changes c__law_changes k__law_changes
  have F_City_numbers := fun_mk (st := s_City_numbers) l_City_numbers c_City_numbers k_City_numbers
  have F_City_eq := fun_mk (st := s_City_eq) l_City_eq c_City_eq k_City_eq
  have F__law_wrong := fun_mk (st := s__law_wrong) l__law_wrong c__law_wrong k__law_wrong
  have F_block_of := fun_mk (st := s_block_of) l_block_of c_block_of k_block_of
  have F_City_out_pin := fun_mk (st := s_City_out_pin) l_City_out_pin c_City_out_pin k_City_out_pin
  have F_pin_name := fun_mk (st := s_pin_name) l_pin_name c_pin_name k_pin_name
  have F_position_of := fun_mk (st := s_position_of) l_position_of c_position_of k_position_of
  have F_is_telling := fun_mk (st := s_is_telling) l_is_telling c_is_telling k_is_telling
  have F__law_same := fun_mk (st := s__law_same) l__law_same c__law_same k__law_same
  have F_cell_blocks := fun_mk (st := s_cell_blocks) l_cell_blocks c_cell_blocks k_cell_blocks
  have F_joints_of := fun_mk (st := s_joints_of) l_joints_of c_joints_of k_joints_of
  have F_joined_pins := fun_mk (st := s_joined_pins) l_joined_pins c_joined_pins k_joined_pins
  have F_bare_plan := fun_mk (st := s_bare_plan) l_bare_plan c_bare_plan k_bare_plan
  have F__law_place_of := fun_mk (st := s__law_place_of) l__law_place_of c__law_place_of k__law_place_of
  have F_City_block_pin := fun_mk (st := s_City_block_pin) l_City_block_pin c_City_block_pin k_City_block_pin
  have F_law := fun_mk (st := s_law) l_law c_law k_law
  have b__law_start := F__law_start.binds (ps := ["script"]) fun _ _ _ _ _ _ us hl => match us, hl with | [_], _ => rfl
  have b_is_from_zero := F_is_from_zero.binds (ps := ["value", "limit"]) fun _ _ _ _ _ _ us hl => match us, hl with | [_, _], _ => rfl
  have b_City_init := F_City_init.binds (ps := ["self", "ins", "blocks", "outs", "lanes"]) fun _ _ _ _ _ _ us hl => match us, hl with | [_, _, _, _, _], _ => rfl
  have b__law_pins := F__law_pins.binds (ps := ["city"]) fun _ _ _ _ _ _ us hl => match us, hl with | [_], _ => rfl
  have b_is_joined_row := F_is_joined_row.binds (ps := ["value"]) fun _ _ _ _ _ _ us hl => match us, hl with | [_], _ => rfl
  have b_is_block_cell := F_is_block_cell.binds (ps := ["value"]) fun _ _ _ _ _ _ us hl => match us, hl with | [_], _ => rfl
  have b_Plan_init := F_Plan_init.binds (ps := ["self", "cells", "joins"]) fun _ _ _ _ _ _ us hl => match us, hl with | [_, _, _], _ => rfl
  have b__law_pick := F__law_pick.binds (ps := ["state", "limit"]) fun _ _ _ _ _ _ us hl => match us, hl with | [_, _], _ => rfl
  have b_City_pin_count := F_City_pin_count.binds (ps := ["self"]) fun _ _ _ _ _ _ us hl => match us, hl with | [_], _ => rfl
  have b__law_drawn := F__law_drawn.binds (ps := ["state", "city"]) fun _ _ _ _ _ _ us hl => match us, hl with | [_, _], _ => rfl
  have b_Plan_eq := F_Plan_eq.binds (ps := ["self", "other"]) fun _ _ _ _ _ _ us hl => match us, hl with | [_, _], _ => rfl
  have b_changed_plan := F_changed_plan.binds (ps := ["plan", "blocks", "lanes"]) fun _ _ _ _ _ _ us hl => match us, hl with | [_, _, _], _ => rfl
  have b_plan_misfit := F_plan_misfit.binds (ps := ["city", "plan"]) fun _ _ _ _ _ _ us hl => match us, hl with | [_, _], _ => rfl
  have b_check_plan := F_check_plan.binds (ps := ["city", "plan"]) fun _ _ _ _ _ _ us hl => match us, hl with | [_, _], _ => rfl
  have b__law_refused := F__law_refused.binds (ps := ["kind", "parts"]) fun _ _ _ _ _ _ us hl => match us, hl with | [_, _], _ => rfl
  have b__law_changes := F__law_changes.binds (ps := ["state", "city", "plan"]) fun _ _ _ _ _ _ us hl => match us, hl with | [_, _, _], _ => rfl
  have b_City_numbers := F_City_numbers.binds (ps := ["self"]) fun _ _ _ _ _ _ us hl => match us, hl with | [_], _ => rfl
  have b_City_eq := F_City_eq.binds (ps := ["self", "other"]) fun _ _ _ _ _ _ us hl => match us, hl with | [_, _], _ => rfl
  have b__law_wrong := F__law_wrong.binds (ps := ["state", "city", "plan"]) fun _ _ _ _ _ _ us hl => match us, hl with | [_, _, _], _ => rfl
  have b_block_of := F_block_of.binds (ps := ["city", "pin"]) fun _ _ _ _ _ _ us hl => match us, hl with | [_, _], _ => rfl
  have b_City_out_pin := F_City_out_pin.binds (ps := ["self", "j"]) fun _ _ _ _ _ _ us hl => match us, hl with | [_, _], _ => rfl
  have b_pin_name := F_pin_name.binds (ps := ["city", "pin"]) fun _ _ _ _ _ _ us hl => match us, hl with | [_, _], _ => rfl
  have b_position_of := F_position_of.binds (ps := ["city", "pin"]) fun _ _ _ _ _ _ us hl => match us, hl with | [_, _], _ => rfl
  have b_is_telling := F_is_telling.binds (ps := ["city", "pin"]) fun _ _ _ _ _ _ us hl => match us, hl with | [_, _], _ => rfl
  have b__law_same := F__law_same.binds (ps := ["told", "due"]) fun _ _ _ _ _ _ us hl => match us, hl with | [_, _], _ => rfl
  have b_cell_blocks := F_cell_blocks.binds (ps := ["plan"]) fun _ _ _ _ _ _ us hl => match us, hl with | [_], _ => rfl
  have b_joints_of := F_joints_of.binds (ps := ["plan"]) fun _ _ _ _ _ _ us hl => match us, hl with | [_], _ => rfl
  have b_joined_pins := F_joined_pins.binds (ps := ["plan"]) fun _ _ _ _ _ _ us hl => match us, hl with | [_], _ => rfl
  have b_bare_plan := F_bare_plan.binds (ps := ["city"]) fun _ _ _ _ _ _ us hl => match us, hl with | [_], _ => rfl
  have b__law_place_of := F__law_place_of.binds (ps := ["city", "pin"]) fun _ _ _ _ _ _ us hl => match us, hl with | [_, _], _ => rfl
  have b_City_block_pin := F_City_block_pin.binds (ps := ["self", "k", "place"]) fun _ _ _ _ _ _ us hl => match us, hl with | [_, _, _], _ => rfl
  have b_law := F_law.binds (ps := ["script"]) fun _ _ _ _ _ _ us hl => match us, hl with | [_], _ => rfl
  have EE_CityError := errB_own B_CityError L_CityError R_CityError
  have E_CityError : ErrI K l.prog mg "CityError" _ _ _ _ _ _ _ _ := ⟨⟨⟨_, _, _, _, _, _, _, LF_CityError⟩, ⟨_, _, _, LC_CityError⟩, CO_CityError, ⟨_, _, _, _, _, LO_CityError, VS_CityError⟩, TOP, PySem.W.mg_none_of X G z_super, CI_CityError⟩, PySem.W.mg_of X G a_CityError, EE_CityError.1, EE_CityError.2, I_CityError, Y_CityError, V_CityError⟩
  have EE_InvalidCity := errB_own B_InvalidCity L_InvalidCity R_InvalidCity
  have E_InvalidCity : ErrI K l.prog mg "InvalidCity" _ _ _ _ _ _ _ _ := ⟨⟨⟨_, _, _, _, _, _, _, LF_InvalidCity⟩, ⟨_, _, _, LC_InvalidCity⟩, CO_InvalidCity, ⟨_, _, _, _, _, LO_InvalidCity, VS_InvalidCity⟩, TOP, PySem.W.mg_none_of X G z_super, CI_InvalidCity⟩, PySem.W.mg_of X G a_InvalidCity, EE_InvalidCity.1, EE_InvalidCity.2, I_InvalidCity, Y_InvalidCity, V_InvalidCity⟩
  have EE_InvalidPlan := errB_own B_InvalidPlan L_InvalidPlan R_InvalidPlan
  have E_InvalidPlan : ErrI K l.prog mg "InvalidPlan" _ _ _ _ _ _ _ _ := ⟨⟨⟨_, _, _, _, _, _, _, LF_InvalidPlan⟩, ⟨_, _, _, LC_InvalidPlan⟩, CO_InvalidPlan, ⟨_, _, _, _, _, LO_InvalidPlan, VS_InvalidPlan⟩, TOP, PySem.W.mg_none_of X G z_super, CI_InvalidPlan⟩, PySem.W.mg_of X G a_InvalidPlan, EE_InvalidPlan.1, EE_InvalidPlan.2, I_InvalidPlan, Y_InvalidPlan, V_InvalidPlan⟩
  have Tx : Txt K l.prog mg { C_CityError := C_CityError, C_InvalidCity := C_InvalidCity, C_InvalidPlan := C_InvalidPlan, C_City := C_City, C_Plan := C_Plan, e_CityError := e_CityError, cc_CityError := cc_CityError, co_CityError := co_CityError, e_InvalidCity := e_InvalidCity, cc_InvalidCity := cc_InvalidCity, co_InvalidCity := co_InvalidCity, e_InvalidPlan := e_InvalidPlan, cc_InvalidPlan := cc_InvalidPlan, co_InvalidPlan := co_InvalidPlan, f__law_start := f__law_start, fd__law_start := (PySem.W.fnOf "_law_start" "_law_start" (defArgs s__law_start) (defBody s__law_start) (defScope s__law_start) .none kV__law_start dc__law_start pm__law_start an__law_start cd__law_start ct__law_start), f_is_from_zero := f_is_from_zero, fd_is_from_zero := (PySem.W.fnOf "is_from_zero" "is_from_zero" (defArgs s_is_from_zero) (defBody s_is_from_zero) (defScope s_is_from_zero) .none kV_is_from_zero dc_is_from_zero pm_is_from_zero an_is_from_zero cd_is_from_zero ct_is_from_zero), f_City_init := f_City_init, fd_City_init := (PySem.W.fnOf "__init__" "City.__init__" (defArgs s_City_init) (defBody s_City_init) (defScope s_City_init) .none kV_City_init dc_City_init pm_City_init an_City_init cd_City_init ct_City_init), f__law_pins := f__law_pins, fd__law_pins := (PySem.W.fnOf "_law_pins" "_law_pins" (defArgs s__law_pins) (defBody s__law_pins) (defScope s__law_pins) .none kV__law_pins dc__law_pins pm__law_pins an__law_pins cd__law_pins ct__law_pins), f_is_joined_row := f_is_joined_row, fd_is_joined_row := (PySem.W.fnOf "is_joined_row" "is_joined_row" (defArgs s_is_joined_row) (defBody s_is_joined_row) (defScope s_is_joined_row) .none kV_is_joined_row dc_is_joined_row pm_is_joined_row an_is_joined_row cd_is_joined_row ct_is_joined_row), f_is_block_cell := f_is_block_cell, fd_is_block_cell := (PySem.W.fnOf "is_block_cell" "is_block_cell" (defArgs s_is_block_cell) (defBody s_is_block_cell) (defScope s_is_block_cell) .none kV_is_block_cell dc_is_block_cell pm_is_block_cell an_is_block_cell cd_is_block_cell ct_is_block_cell), f_Plan_init := f_Plan_init, fd_Plan_init := (PySem.W.fnOf "__init__" "Plan.__init__" (defArgs s_Plan_init) (defBody s_Plan_init) (defScope s_Plan_init) .none kV_Plan_init dc_Plan_init pm_Plan_init an_Plan_init cd_Plan_init ct_Plan_init), f__law_pick := f__law_pick, fd__law_pick := (PySem.W.fnOf "_law_pick" "_law_pick" (defArgs s__law_pick) (defBody s__law_pick) (defScope s__law_pick) .none kV__law_pick dc__law_pick pm__law_pick an__law_pick cd__law_pick ct__law_pick), f_City_pin_count := f_City_pin_count, fd_City_pin_count := (PySem.W.fnOf "pin_count" "City.pin_count" (defArgs s_City_pin_count) (defBody s_City_pin_count) (defScope s_City_pin_count) .none kV_City_pin_count dc_City_pin_count pm_City_pin_count an_City_pin_count cd_City_pin_count ct_City_pin_count), f__law_drawn := f__law_drawn, fd__law_drawn := (PySem.W.fnOf "_law_drawn" "_law_drawn" (defArgs s__law_drawn) (defBody s__law_drawn) (defScope s__law_drawn) .none kV__law_drawn dc__law_drawn pm__law_drawn an__law_drawn cd__law_drawn ct__law_drawn), f_Plan_eq := f_Plan_eq, fd_Plan_eq := (PySem.W.fnOf "__eq__" "Plan.__eq__" (defArgs s_Plan_eq) (defBody s_Plan_eq) (defScope s_Plan_eq) .none kV_Plan_eq dc_Plan_eq pm_Plan_eq an_Plan_eq cd_Plan_eq ct_Plan_eq), f_changed_plan := f_changed_plan, fd_changed_plan := (PySem.W.fnOf "changed_plan" "changed_plan" (defArgs s_changed_plan) (defBody s_changed_plan) (defScope s_changed_plan) .none kV_changed_plan dc_changed_plan pm_changed_plan an_changed_plan cd_changed_plan ct_changed_plan), f_plan_misfit := f_plan_misfit, fd_plan_misfit := (PySem.W.fnOf "plan_misfit" "plan_misfit" (defArgs s_plan_misfit) (defBody s_plan_misfit) (defScope s_plan_misfit) .none kV_plan_misfit dc_plan_misfit pm_plan_misfit an_plan_misfit cd_plan_misfit ct_plan_misfit), f_check_plan := f_check_plan, fd_check_plan := (PySem.W.fnOf "check_plan" "check_plan" (defArgs s_check_plan) (defBody s_check_plan) (defScope s_check_plan) .none kV_check_plan dc_check_plan pm_check_plan an_check_plan cd_check_plan ct_check_plan), f__law_refused := f__law_refused, fd__law_refused := (PySem.W.fnOf "_law_refused" "_law_refused" (defArgs s__law_refused) (defBody s__law_refused) (defScope s__law_refused) .none kV__law_refused dc__law_refused pm__law_refused an__law_refused cd__law_refused ct__law_refused), f__law_changes := f__law_changes, fd__law_changes := (PySem.W.fnOf "_law_changes" "_law_changes" (defArgs s__law_changes) (defBody s__law_changes) (defScope s__law_changes) .none kV__law_changes dc__law_changes pm__law_changes an__law_changes cd__law_changes ct__law_changes), f_City_numbers := f_City_numbers, fd_City_numbers := (PySem.W.fnOf "numbers" "City.numbers" (defArgs s_City_numbers) (defBody s_City_numbers) (defScope s_City_numbers) .none kV_City_numbers dc_City_numbers pm_City_numbers an_City_numbers cd_City_numbers ct_City_numbers), f_City_eq := f_City_eq, fd_City_eq := (PySem.W.fnOf "__eq__" "City.__eq__" (defArgs s_City_eq) (defBody s_City_eq) (defScope s_City_eq) .none kV_City_eq dc_City_eq pm_City_eq an_City_eq cd_City_eq ct_City_eq), f__law_wrong := f__law_wrong, fd__law_wrong := (PySem.W.fnOf "_law_wrong" "_law_wrong" (defArgs s__law_wrong) (defBody s__law_wrong) (defScope s__law_wrong) .none kV__law_wrong dc__law_wrong pm__law_wrong an__law_wrong cd__law_wrong ct__law_wrong), f_block_of := f_block_of, fd_block_of := (PySem.W.fnOf "block_of" "block_of" (defArgs s_block_of) (defBody s_block_of) (defScope s_block_of) .none kV_block_of dc_block_of pm_block_of an_block_of cd_block_of ct_block_of), f_City_out_pin := f_City_out_pin, fd_City_out_pin := (PySem.W.fnOf "out_pin" "City.out_pin" (defArgs s_City_out_pin) (defBody s_City_out_pin) (defScope s_City_out_pin) .none kV_City_out_pin dc_City_out_pin pm_City_out_pin an_City_out_pin cd_City_out_pin ct_City_out_pin), f_pin_name := f_pin_name, fd_pin_name := (PySem.W.fnOf "pin_name" "pin_name" (defArgs s_pin_name) (defBody s_pin_name) (defScope s_pin_name) .none kV_pin_name dc_pin_name pm_pin_name an_pin_name cd_pin_name ct_pin_name), f_position_of := f_position_of, fd_position_of := (PySem.W.fnOf "position_of" "position_of" (defArgs s_position_of) (defBody s_position_of) (defScope s_position_of) .none kV_position_of dc_position_of pm_position_of an_position_of cd_position_of ct_position_of), f_is_telling := f_is_telling, fd_is_telling := (PySem.W.fnOf "is_telling" "is_telling" (defArgs s_is_telling) (defBody s_is_telling) (defScope s_is_telling) .none kV_is_telling dc_is_telling pm_is_telling an_is_telling cd_is_telling ct_is_telling), f__law_same := f__law_same, fd__law_same := (PySem.W.fnOf "_law_same" "_law_same" (defArgs s__law_same) (defBody s__law_same) (defScope s__law_same) .none kV__law_same dc__law_same pm__law_same an__law_same cd__law_same ct__law_same), f_cell_blocks := f_cell_blocks, fd_cell_blocks := (PySem.W.fnOf "cell_blocks" "cell_blocks" (defArgs s_cell_blocks) (defBody s_cell_blocks) (defScope s_cell_blocks) .none kV_cell_blocks dc_cell_blocks pm_cell_blocks an_cell_blocks cd_cell_blocks ct_cell_blocks), f_joints_of := f_joints_of, fd_joints_of := (PySem.W.fnOf "joints_of" "joints_of" (defArgs s_joints_of) (defBody s_joints_of) (defScope s_joints_of) .none kV_joints_of dc_joints_of pm_joints_of an_joints_of cd_joints_of ct_joints_of), f_joined_pins := f_joined_pins, fd_joined_pins := (PySem.W.fnOf "joined_pins" "joined_pins" (defArgs s_joined_pins) (defBody s_joined_pins) (defScope s_joined_pins) .none kV_joined_pins dc_joined_pins pm_joined_pins an_joined_pins cd_joined_pins ct_joined_pins), f_bare_plan := f_bare_plan, fd_bare_plan := (PySem.W.fnOf "bare_plan" "bare_plan" (defArgs s_bare_plan) (defBody s_bare_plan) (defScope s_bare_plan) .none kV_bare_plan dc_bare_plan pm_bare_plan an_bare_plan cd_bare_plan ct_bare_plan), f__law_place_of := f__law_place_of, fd__law_place_of := (PySem.W.fnOf "_law_place_of" "_law_place_of" (defArgs s__law_place_of) (defBody s__law_place_of) (defScope s__law_place_of) .none kV__law_place_of dc__law_place_of pm__law_place_of an__law_place_of cd__law_place_of ct__law_place_of), f_City_block_pin := f_City_block_pin, fd_City_block_pin := (PySem.W.fnOf "block_pin" "City.block_pin" (defArgs s_City_block_pin) (defBody s_City_block_pin) (defScope s_City_block_pin) .none kV_City_block_pin dc_City_block_pin pm_City_block_pin an_City_block_pin cd_City_block_pin ct_City_block_pin), f_law := fa, fd_law := (PySem.W.fnOf "law" "law" (defArgs s_law) (defBody s_law) (defScope s_law) .none kV_law dc_law pm_law an_law cd_law ct_law), t_MOST_THINGS := t_MOST_THINGS } := { n_isinstance := PySem.W.mg_none_of X G z_isinstance, n_int := PySem.W.mg_none_of X G z_int, n_bool := PySem.W.mg_none_of X G z_bool, n_range := PySem.W.mg_none_of X G z_range, n_str := PySem.W.mg_none_of X G z_str, n_tuple := PySem.W.mg_none_of X G z_tuple, n_all := PySem.W.mg_none_of X G z_all, n_len := PySem.W.mg_none_of X G z_len, n_abs := PySem.W.mg_none_of X G z_abs, n_sorted := PySem.W.mg_none_of X G z_sorted, n_set := PySem.W.mg_none_of X G z_set, n_max := PySem.W.mg_none_of X G z_max, n_list := PySem.W.mg_none_of X G z_list, n_min := PySem.W.mg_none_of X G z_min, c_MOST_THINGS := PySem.W.mg_of X G u_MOST_THINGS, a_CityError := PySem.W.mg_of X G a_CityError, a_InvalidCity := PySem.W.mg_of X G a_InvalidCity, a_InvalidPlan := PySem.W.mg_of X G a_InvalidPlan, a_City := PySem.W.mg_of X G a_City, a_Plan := PySem.W.mg_of X G a_Plan, E_CityError := E_CityError, sv_CityError := ⟨OPC, M1_CityError, S1_CityError⟩, E_InvalidCity := E_InvalidCity, so_InvalidCity := ⟨OPC, M1_InvalidCity, S1_InvalidCity⟩, sv_InvalidCity := ⟨OPC, M2_InvalidCity, S2_InvalidCity⟩, E_InvalidPlan := E_InvalidPlan, so_InvalidPlan := ⟨OPC, M1_InvalidPlan, S1_InvalidPlan⟩, sv_InvalidPlan := ⟨OPC, M2_InvalidPlan, S2_InvalidPlan⟩, xb_InvalidCity := xb_InvalidCity, xb_InvalidPlan := xb_InvalidPlan, in_City := in_City, no_City := no_City, mk_City := ⟨mk_City, i_City_init, fn_City_init, kc_City⟩, in_Plan := in_Plan, no_Plan := no_Plan, mk_Plan := ⟨mk_Plan, i_Plan_init, fn_Plan_init, kc_Plan⟩, ty_City := ty_City, tb_City := tb_City, ty_Plan := ty_Plan, tb_Plan := tb_Plan, ne_City := ne_City, mo_City := mo_City, ne_Plan := ne_Plan, mo_Plan := mo_Plan, m__law_start := PySem.W.mg_of X G a__law_start, F__law_start := F__law_start, b__law_start := b__law_start, m_is_from_zero := PySem.W.mg_of X G a_is_from_zero, F_is_from_zero := F_is_from_zero, b_is_from_zero := b_is_from_zero, me_City_init := ⟨i_City_init, fn_City_init, k_City_init⟩, F_City_init := F_City_init, b_City_init := b_City_init, m__law_pins := PySem.W.mg_of X G a__law_pins, F__law_pins := F__law_pins, b__law_pins := b__law_pins, m_is_joined_row := PySem.W.mg_of X G a_is_joined_row, F_is_joined_row := F_is_joined_row, b_is_joined_row := b_is_joined_row, m_is_block_cell := PySem.W.mg_of X G a_is_block_cell, F_is_block_cell := F_is_block_cell, b_is_block_cell := b_is_block_cell, me_Plan_init := ⟨i_Plan_init, fn_Plan_init, k_Plan_init⟩, F_Plan_init := F_Plan_init, b_Plan_init := b_Plan_init, m__law_pick := PySem.W.mg_of X G a__law_pick, F__law_pick := F__law_pick, b__law_pick := b__law_pick, me_City_pin_count := ⟨i_City_pin_count, fn_City_pin_count, k_City_pin_count⟩, F_City_pin_count := F_City_pin_count, b_City_pin_count := b_City_pin_count, m__law_drawn := PySem.W.mg_of X G a__law_drawn, F__law_drawn := F__law_drawn, b__law_drawn := b__law_drawn, me_Plan_eq := ⟨i_Plan_eq, fn_Plan_eq, k_Plan_eq⟩, F_Plan_eq := F_Plan_eq, b_Plan_eq := b_Plan_eq, m_changed_plan := PySem.W.mg_of X G a_changed_plan, F_changed_plan := F_changed_plan, b_changed_plan := b_changed_plan, m_plan_misfit := PySem.W.mg_of X G a_plan_misfit, F_plan_misfit := F_plan_misfit, b_plan_misfit := b_plan_misfit, m_check_plan := PySem.W.mg_of X G a_check_plan, F_check_plan := F_check_plan, b_check_plan := b_check_plan, m__law_refused := PySem.W.mg_of X G a__law_refused, F__law_refused := F__law_refused, b__law_refused := b__law_refused, m__law_changes := PySem.W.mg_of X G a__law_changes, F__law_changes := F__law_changes, b__law_changes := b__law_changes, me_City_numbers := ⟨i_City_numbers, fn_City_numbers, k_City_numbers⟩, F_City_numbers := F_City_numbers, b_City_numbers := b_City_numbers, me_City_eq := ⟨i_City_eq, fn_City_eq, k_City_eq⟩, F_City_eq := F_City_eq, b_City_eq := b_City_eq, m__law_wrong := PySem.W.mg_of X G a__law_wrong, F__law_wrong := F__law_wrong, b__law_wrong := b__law_wrong, m_block_of := PySem.W.mg_of X G a_block_of, F_block_of := F_block_of, b_block_of := b_block_of, me_City_out_pin := ⟨i_City_out_pin, fn_City_out_pin, k_City_out_pin⟩, F_City_out_pin := F_City_out_pin, b_City_out_pin := b_City_out_pin, m_pin_name := PySem.W.mg_of X G a_pin_name, F_pin_name := F_pin_name, b_pin_name := b_pin_name, m_position_of := PySem.W.mg_of X G a_position_of, F_position_of := F_position_of, b_position_of := b_position_of, m_is_telling := PySem.W.mg_of X G a_is_telling, F_is_telling := F_is_telling, b_is_telling := b_is_telling, m__law_same := PySem.W.mg_of X G a__law_same, F__law_same := F__law_same, b__law_same := b__law_same, m_cell_blocks := PySem.W.mg_of X G a_cell_blocks, F_cell_blocks := F_cell_blocks, b_cell_blocks := b_cell_blocks, m_joints_of := PySem.W.mg_of X G a_joints_of, F_joints_of := F_joints_of, b_joints_of := b_joints_of, m_joined_pins := PySem.W.mg_of X G a_joined_pins, F_joined_pins := F_joined_pins, b_joined_pins := b_joined_pins, m_bare_plan := PySem.W.mg_of X G a_bare_plan, F_bare_plan := F_bare_plan, b_bare_plan := b_bare_plan, m__law_place_of := PySem.W.mg_of X G a__law_place_of, F__law_place_of := F__law_place_of, b__law_place_of := b__law_place_of, me_City_block_pin := ⟨i_City_block_pin, fn_City_block_pin, k_City_block_pin⟩, F_City_block_pin := F_City_block_pin, b_City_block_pin := b_City_block_pin, m_law := PySem.W.mg_of X G a_law, F_law := F_law, b_law := b_law }
  exact ⟨_, fun s v => .of_eq rfl, fun base _ _ => law_ok (T := kt K l.prog w _) law_val (ok_law Tx)⟩
end LW
open PySem PySem.W PyProof.Rows
set_option maxRecDepth 100000 in
set_option maxHeartbeats 0 in
theorem PySem.Challenge.cw_citywright_k34_whole_cities_and_plans_holds : PySem.Challenge.rw_citywright_k34_whole_cities_and_plans.Holds := by
  w_on; o_law; k_head; (case hw => w_witness2)
  k_fill
  refine VM.walk (k := 11) (l := PySem.Challenge.rw_citywright_k34_whole_cities_and_plans) (by decide) rfl rfl (fun w h Y => PySem.W.kIn_of Y) ?F
  case F =>
    intro w mg fa h KX G hmg
    refine' LW.all_mk KX G hmg ?a_CityError ?a_InvalidCity ?a_InvalidPlan ?a_City ?a_Plan ?L_CityError ?B_CityError ?R_CityError ?I_CityError ?Y_CityError ?V_CityError ?LF_CityError ?LC_CityError ?CO_CityError ?LO_CityError ?VS_CityError ?CI_CityError ?M1_CityError ?S1_CityError ?L_InvalidCity ?B_InvalidCity ?R_InvalidCity ?I_InvalidCity ?Y_InvalidCity ?V_InvalidCity ?LF_InvalidCity ?LC_InvalidCity ?CO_InvalidCity ?LO_InvalidCity ?VS_InvalidCity ?CI_InvalidCity ?M1_InvalidCity ?S1_InvalidCity ?M2_InvalidCity ?S2_InvalidCity ?L_InvalidPlan ?B_InvalidPlan ?R_InvalidPlan ?I_InvalidPlan ?Y_InvalidPlan ?V_InvalidPlan ?LF_InvalidPlan ?LC_InvalidPlan ?CO_InvalidPlan ?LO_InvalidPlan ?VS_InvalidPlan ?CI_InvalidPlan ?M1_InvalidPlan ?S1_InvalidPlan ?M2_InvalidPlan ?S2_InvalidPlan ?OPC ?TOP ?z_super ?xb_InvalidCity ?xb_InvalidPlan ?in_City ?no_City ?mk_City ?kc_City ?in_Plan ?no_Plan ?mk_Plan ?kc_Plan ?ty_City ?tb_City ?ty_Plan ?tb_Plan ?ne_City ?mo_City ?ne_Plan ?mo_Plan ?a__law_start ?l__law_start ?c__law_start ?k__law_start ?a_is_from_zero ?l_is_from_zero ?c_is_from_zero ?k_is_from_zero ?i_City_init ?l_City_init ?c_City_init ?k_City_init ?fn_City_init ?a__law_pins ?l__law_pins ?c__law_pins ?k__law_pins ?a_is_joined_row ?l_is_joined_row ?c_is_joined_row ?k_is_joined_row ?a_is_block_cell ?l_is_block_cell ?c_is_block_cell ?k_is_block_cell ?i_Plan_init ?l_Plan_init ?c_Plan_init ?k_Plan_init ?fn_Plan_init ?a__law_pick ?l__law_pick ?c__law_pick ?k__law_pick ?i_City_pin_count ?l_City_pin_count ?c_City_pin_count ?k_City_pin_count ?fn_City_pin_count ?a__law_drawn ?l__law_drawn ?c__law_drawn ?k__law_drawn ?i_Plan_eq ?l_Plan_eq ?c_Plan_eq ?k_Plan_eq ?fn_Plan_eq ?a_changed_plan ?l_changed_plan ?c_changed_plan ?k_changed_plan ?a_plan_misfit ?l_plan_misfit ?c_plan_misfit ?k_plan_misfit ?a_check_plan ?l_check_plan ?c_check_plan ?k_check_plan ?a__law_refused ?l__law_refused ?c__law_refused ?k__law_refused ?a__law_changes ?l__law_changes ?c__law_changes ?k__law_changes ?i_City_numbers ?l_City_numbers ?c_City_numbers ?k_City_numbers ?fn_City_numbers ?i_City_eq ?l_City_eq ?c_City_eq ?k_City_eq ?fn_City_eq ?a__law_wrong ?l__law_wrong ?c__law_wrong ?k__law_wrong ?a_block_of ?l_block_of ?c_block_of ?k_block_of ?i_City_out_pin ?l_City_out_pin ?c_City_out_pin ?k_City_out_pin ?fn_City_out_pin ?a_pin_name ?l_pin_name ?c_pin_name ?k_pin_name ?a_position_of ?l_position_of ?c_position_of ?k_position_of ?a_is_telling ?l_is_telling ?c_is_telling ?k_is_telling ?a__law_same ?l__law_same ?c__law_same ?k__law_same ?a_cell_blocks ?l_cell_blocks ?c_cell_blocks ?k_cell_blocks ?a_joints_of ?l_joints_of ?c_joints_of ?k_joints_of ?a_joined_pins ?l_joined_pins ?c_joined_pins ?k_joined_pins ?a_bare_plan ?l_bare_plan ?c_bare_plan ?k_bare_plan ?a__law_place_of ?l__law_place_of ?c__law_place_of ?k__law_place_of ?i_City_block_pin ?l_City_block_pin ?c_City_block_pin ?k_City_block_pin ?fn_City_block_pin ?a_law ?l_law ?c_law ?k_law ?z_isinstance ?z_int ?z_bool ?z_range ?z_str ?z_tuple ?z_all ?z_len ?z_abs ?z_sorted ?z_set ?z_max ?z_list ?z_min ?u_MOST_THINGS
    (case a_CityError => k_is)
    (case a_InvalidCity => k_is)
    (case a_InvalidPlan => k_is)
    (case a_City => k_is)
    (case a_Plan => k_is)
    (case L_CityError => k_is)
    (case B_CityError => kernel_rfl)
    (case R_CityError => kernel_rfl)
    (case I_CityError => k_is)
    (case Y_CityError => k_is)
    (case V_CityError => k_is)
    (case LF_CityError => k_is)
    (case LC_CityError => k_is)
    (case CO_CityError => k_is)
    (case LO_CityError => k_is)
    (case VS_CityError => exact rfl)
    (case CI_CityError => k_is)
    (case M1_CityError => k_is)
    (case S1_CityError => kernel_rfl)
    (case L_InvalidCity => k_is)
    (case B_InvalidCity => kernel_rfl)
    (case R_InvalidCity => kernel_rfl)
    (case I_InvalidCity => k_is)
    (case Y_InvalidCity => k_is)
    (case V_InvalidCity => k_is)
    (case LF_InvalidCity => k_is)
    (case LC_InvalidCity => k_is)
    (case CO_InvalidCity => k_is)
    (case LO_InvalidCity => k_is)
    (case VS_InvalidCity => exact rfl)
    (case CI_InvalidCity => k_is)
    (case M1_InvalidCity => k_is)
    (case S1_InvalidCity => kernel_rfl)
    (case M2_InvalidCity => k_is)
    (case S2_InvalidCity => kernel_rfl)
    (case L_InvalidPlan => k_is)
    (case B_InvalidPlan => kernel_rfl)
    (case R_InvalidPlan => kernel_rfl)
    (case I_InvalidPlan => k_is)
    (case Y_InvalidPlan => k_is)
    (case V_InvalidPlan => k_is)
    (case LF_InvalidPlan => k_is)
    (case LC_InvalidPlan => k_is)
    (case CO_InvalidPlan => k_is)
    (case LO_InvalidPlan => k_is)
    (case VS_InvalidPlan => exact rfl)
    (case CI_InvalidPlan => k_is)
    (case M1_InvalidPlan => k_is)
    (case S1_InvalidPlan => kernel_rfl)
    (case M2_InvalidPlan => k_is)
    (case S2_InvalidPlan => kernel_rfl)
    (case OPC => k_is)
    (case TOP => first | kernel_rfl | decide +kernel)
    (case z_super => k_is)
    (case xb_InvalidCity => kernel_rfl)
    (case xb_InvalidPlan => kernel_rfl)
    (case in_City => kernel_rfl)
    (case no_City => kernel_rfl)
    (case mk_City => k_is)
    (case kc_City => k_is)
    (case in_Plan => kernel_rfl)
    (case no_Plan => kernel_rfl)
    (case mk_Plan => k_is)
    (case kc_Plan => k_is)
    (case ty_City => kernel_rfl)
    (case tb_City => kernel_rfl)
    (case ty_Plan => kernel_rfl)
    (case tb_Plan => kernel_rfl)
    (case ne_City => k_is)
    (case mo_City => k_is)
    (case ne_Plan => k_is)
    (case mo_Plan => k_is)
    (case a__law_start => k_is)
    (case l__law_start => k_is)
    (case c__law_start => k_is)
    (case k__law_start => k_is)
    (case a_is_from_zero => k_is)
    (case l_is_from_zero => k_is)
    (case c_is_from_zero => k_is)
    (case k_is_from_zero => k_is)
    (case i_City_init => k_is)
    (case l_City_init => k_is)
    (case c_City_init => k_is)
    (case k_City_init => k_is)
    (case fn_City_init => k_is)
    (case a__law_pins => k_is)
    (case l__law_pins => k_is)
    (case c__law_pins => k_is)
    (case k__law_pins => k_is)
    (case a_is_joined_row => k_is)
    (case l_is_joined_row => k_is)
    (case c_is_joined_row => k_is)
    (case k_is_joined_row => k_is)
    (case a_is_block_cell => k_is)
    (case l_is_block_cell => k_is)
    (case c_is_block_cell => k_is)
    (case k_is_block_cell => k_is)
    (case i_Plan_init => k_is)
    (case l_Plan_init => k_is)
    (case c_Plan_init => k_is)
    (case k_Plan_init => k_is)
    (case fn_Plan_init => k_is)
    (case a__law_pick => k_is)
    (case l__law_pick => k_is)
    (case c__law_pick => k_is)
    (case k__law_pick => k_is)
    (case i_City_pin_count => k_is)
    (case l_City_pin_count => k_is)
    (case c_City_pin_count => k_is)
    (case k_City_pin_count => k_is)
    (case fn_City_pin_count => k_is)
    (case a__law_drawn => k_is)
    (case l__law_drawn => k_is)
    (case c__law_drawn => k_is)
    (case k__law_drawn => k_is)
    (case i_Plan_eq => k_is)
    (case l_Plan_eq => k_is)
    (case c_Plan_eq => k_is)
    (case k_Plan_eq => k_is)
    (case fn_Plan_eq => k_is)
    (case a_changed_plan => k_is)
    (case l_changed_plan => k_is)
    (case c_changed_plan => k_is)
    (case k_changed_plan => k_is)
    (case a_plan_misfit => k_is)
    (case l_plan_misfit => k_is)
    (case c_plan_misfit => k_is)
    (case k_plan_misfit => k_is)
    (case a_check_plan => k_is)
    (case l_check_plan => k_is)
    (case c_check_plan => k_is)
    (case k_check_plan => k_is)
    (case a__law_refused => k_is)
    (case l__law_refused => k_is)
    (case c__law_refused => k_is)
    (case k__law_refused => k_is)
    (case a__law_changes => k_is)
    (case l__law_changes => k_is)
    (case c__law_changes => k_is)
    (case k__law_changes => k_is)
    (case i_City_numbers => k_is)
    (case l_City_numbers => k_is)
    (case c_City_numbers => k_is)
    (case k_City_numbers => k_is)
    (case fn_City_numbers => k_is)
    (case i_City_eq => k_is)
    (case l_City_eq => k_is)
    (case c_City_eq => k_is)
    (case k_City_eq => k_is)
    (case fn_City_eq => k_is)
    (case a__law_wrong => k_is)
    (case l__law_wrong => k_is)
    (case c__law_wrong => k_is)
    (case k__law_wrong => k_is)
    (case a_block_of => k_is)
    (case l_block_of => k_is)
    (case c_block_of => k_is)
    (case k_block_of => k_is)
    (case i_City_out_pin => k_is)
    (case l_City_out_pin => k_is)
    (case c_City_out_pin => k_is)
    (case k_City_out_pin => k_is)
    (case fn_City_out_pin => k_is)
    (case a_pin_name => k_is)
    (case l_pin_name => k_is)
    (case c_pin_name => k_is)
    (case k_pin_name => k_is)
    (case a_position_of => k_is)
    (case l_position_of => k_is)
    (case c_position_of => k_is)
    (case k_position_of => k_is)
    (case a_is_telling => k_is)
    (case l_is_telling => k_is)
    (case c_is_telling => k_is)
    (case k_is_telling => k_is)
    (case a__law_same => k_is)
    (case l__law_same => k_is)
    (case c__law_same => k_is)
    (case k__law_same => k_is)
    (case a_cell_blocks => k_is)
    (case l_cell_blocks => k_is)
    (case c_cell_blocks => k_is)
    (case k_cell_blocks => k_is)
    (case a_joints_of => k_is)
    (case l_joints_of => k_is)
    (case c_joints_of => k_is)
    (case k_joints_of => k_is)
    (case a_joined_pins => k_is)
    (case l_joined_pins => k_is)
    (case c_joined_pins => k_is)
    (case k_joined_pins => k_is)
    (case a_bare_plan => k_is)
    (case l_bare_plan => k_is)
    (case c_bare_plan => k_is)
    (case k_bare_plan => k_is)
    (case a__law_place_of => k_is)
    (case l__law_place_of => k_is)
    (case c__law_place_of => k_is)
    (case k__law_place_of => k_is)
    (case i_City_block_pin => k_is)
    (case l_City_block_pin => k_is)
    (case c_City_block_pin => k_is)
    (case k_City_block_pin => k_is)
    (case fn_City_block_pin => k_is)
    (case a_law => k_is)
    (case l_law => k_is)
    (case c_law => k_is)
    (case k_law => k_is)
    (case z_isinstance => k_is)
    (case z_int => k_is)
    (case z_bool => k_is)
    (case z_range => k_is)
    (case z_str => k_is)
    (case z_tuple => k_is)
    (case z_all => k_is)
    (case z_len => k_is)
    (case z_abs => k_is)
    (case z_sorted => k_is)
    (case z_set => k_is)
    (case z_max => k_is)
    (case z_list => k_is)
    (case z_min => k_is)
    (case u_MOST_THINGS => k_is)
