import PyProof.Rows.All
import Wide.All
import OpenK.AllK
import Wide.FinOn
import HandS.ExcInit
import HandS.ExcSuper
import HandS.Nested
import HandS.Words
import KE.KSuper
import KE.KExcSuper
import HandS.ForMost
import HandS.Flow
import HandS.IsInst
import HandS.TupAny
import HandS.TupMul
import HandS.WordsExc
import HandS.TryMany
import HandS.TryOnly
import HandS.Strs
import HandS.TupSets
import HandS.Lambda
import HandS.ExcField
import HandS.OwnEq
import PyProof.InstEq
import HandS.SetFor
import HandS.SortInts
import HandS.DictTup
import HandS.Dict
import HandS.DictComp
import HandS.Comp
import HandS.EndBits
import HandS.EndTab
import KE.KNestM
import HandS.Conv
import HandS.Style
import KE.KTupSum
import PySem.Challenge.RW_citywright_k19_whole_queues_as_circuits
set_option Elab.async false
set_option maxRecDepth 100000
set_option maxHeartbeats 4000000
set_option linter.all false
set_option autoImplicit false
/-! An own error whose __init__ begins with super().__init__(place). -/
namespace VE
open PySem PySem.Spec PyProof.Rows L2 NdefX

/-- the words of such an __init__ -/
abbrev supSc : Scope := { kind := .function, names := [(PySem.Str.ofString "self", .local), (PySem.Str.ofString "place", .local), (PySem.Str.ofString "__class__", .free), (PySem.Str.ofString "super", .globalImplicit)], isGenerator := false, isCoroutine := false, more := [] }
abbrev supAr (q1 q2 : Pos) : Arguments := { posonlyargs := [], args := [{ arg := "self", annotation := none, pos := q1 }, { arg := "place", annotation := none, pos := q2 }], vararg := none, kwonlyargs := [], kw_defaults := [], kwarg := none, defaults := [] }
abbrev supNF (qual : Str) (q1 q2 : Pos) (body : List Stmt) (cc c : Addr) : NF := ⟨"__init__", qual, supAr q1 q2, body, supSc, [("__class__", cc)], c⟩
/-- what is written of it: at f, in the class at D, cc the cell of __class__, c its code -/
structure SupF (K : PySem.W.Frag) (P : Program) (mg : Str → Option Value) (qual : Str) (q1 q2 : Pos) (bd : List Stmt) (f D cc c : Addr) : Prop where
  lk : ∃ oc od doc pm an ctv sl, K.lookup f = some ⟨oc, od, .func (PySem.W.fnX "__init__" qual (supAr q1 q2) bd supSc [("__class__", cc)] .none .none doc pm an (.ref c) ctv), sl⟩
  cell : ∃ c d sl, K.lookup cc = some ⟨c, d, .cell (some (.ref D)), sl⟩
  code : PySem.W.codeIn K (.ref c) qual = true
  file : ∃ c1 d vs sl tf, K.lookup c = some ⟨c1, d, .fields vs, sl⟩ ∧ vs[2]? = some (.str P.main.file tf)
  top : (P.main.scope.names.lookup ("super" : Str)).isSome = false
  mgs : mg "super" = none
  clsD : (PySem.W.clsIn K D).isSome = true

theorem clsIn_at {K : PySem.W.Frag} {h : Heap} {D : Addr} (X : K.In h) (c : (PySem.W.clsIn K D).isSome = true) : ∃ oD cd, h.get? D = some oD ∧ oD.data = .cls cd := by
  obtain ⟨cd, e⟩ := Option.isSome_iff_exists.mp c
  unfold PySem.W.clsIn at e
  split at e
  · rename_i c d cd' sl ho
    cases e
    exact ⟨_, _, X _ _ ho, rfl⟩
  · cases e

theorem inv_pin {X : Cx} {pins : List (Addr × Obj)} {σ : L2.St} {H : Hp} {s : Shared} {b : Addr} {o : Obj} (I : Inv X pins σ H s) (hb : s.heap.get? b = some o) (n : H b = none) (nL : b ≠ X.env.locals) (nF : b ∉ X.fs) (nc : ∀ v, o.data ≠ .cell v) :
    Inv X ((b, o) :: pins) σ H s :=
  ⟨I.ok, I.os, I.bare, I.base, I.loc, I.cell, I.free, I.freeC, fun p hp => by
    rcases List.mem_append.mp hp with hp | hp
    · exact I.pin p (List.mem_append_left _ hp)
    · rcases List.mem_cons.mp hp with rfl | hp
      · exact ⟨hb, n, nL, nF, nc⟩
      · exact I.pin p (List.mem_append_right _ hp), I.hok, I.len⟩
theorem inv_unpin {X : Cx} {pins : List (Addr × Obj)} {σ : L2.St} {H : Hp} {s : Shared} {q : Addr × Obj} (I : Inv X (q :: pins) σ H s) : Inv X pins σ H s :=
  ⟨I.ok, I.os, I.bare, I.base, I.loc, I.cell, I.free, I.freeC, fun p hp => I.pin p (by
    rcases List.mem_append.mp hp with hp | hp
    · exact List.mem_append_left _ hp
    · exact List.mem_append_right _ (List.mem_cons_of_mem _ hp)), I.hok, I.len⟩

/-- how super().__init__(place) is run -/
def CallOk (qual : Str) (q1 q2 : Pos) (bd : List Stmt) (cc c f : Addr) (p0 p1 p2 p3 p4 : Pos) : Prop := ∀ L : Addr, ∃ pl : Sem Bool,
  eval (.Call (.Attribute (.Call (.Name "super" p0) [] [] p1) "__init__" p2) [.Name "place" p3] [] p4) (envF (supNF qual q1 q2 bd cc c) f L) = (do
      let ov ← attributeBase (.Call (.Name "super" p0) [] [] p1) "__init__" (envF (supNF qual q1 q2 bd cc c) f L) (eval (.Call (.Name "super" p0) [] [] p1) (envF (supNF qual q1 q2 bd cc c) f L))
      standAt p2.atName
      let (f1, first) ← holding [ov] (getMethod ov "__init__" pl)
      callWith p4 f1 first (backTo p4 (starEach [.Name "place" p3] (envF (supNF qual q1 q2 bd cc c) f L))) [])
example : CallOk "CityError.__init__" ⟨4, 17, 4, 21⟩ ⟨4, 17, 4, 21⟩ [] 5 6 7 ⟨5, 8, 5, 13⟩ ⟨5, 8, 5, 15⟩ ⟨5, 8, 5, 24⟩ ⟨5, 25, 5, 30⟩ ⟨5, 8, 5, 31⟩ := fun L => ⟨_, rfl⟩
/-- super().__init__(place) -/
abbrev supCall (p0 p1 p2 p3 p4 : Pos) : Expr := .Call (.Attribute (.Call (.Name "super" p0) [] [] p1) "__init__" p2) [.Name "place" p3] [] p4

section
variable {CX : CXT} {P : Program} {w : World} {K : PySem.W.Frag} {mg : Str → Option Value} {base : Heap} {qual : Str} {q1 q2 : Pos} {bd : List Stmt} {f D cc c : Addr} {A : Around} {outer : List Env} {s0 : Shared} {H0 : Hp} {E0 : XK}
abbrev Nsup : List Str := ["self", "place", "__class__"]
abbrev supX (CX : CXT) (P : Program) (w : World) (K : PySem.W.Frag) (mg : Str → Option Value) (base : Heap) (qual : Str) (q1 q2 : Pos) (bd : List Stmt) (cc c f : Addr) (A : Around) (outer : List Env) (s : Shared) (H : Hp) (E : XK) : Cx := ncx CX P w K mg base Nsup (supNF qual q1 q2 bd cc c) f A outer s H E
/-- the super object is made -/
theorem sup_node (S : SupF K P mg qual q1 q2 bd f D cc c) {σ : L2.St} {H : Hp} {s : Shared} {e C : Addr} {d : Option Addr} {body : List Stmt} {p0 p1 : Pos} {whole : Sem Value} {Q : Value → Shared → Prop}
    (I : Inv (supX CX P w K mg base qual q1 q2 bd cc c f A outer s0 H0 E0) [] σ H s) (e0 : σ[0]? = some (some (.ref e))) (hsub : PySem.W.mroIn K C (.ref D) = some true) (he : H e = some (exo e C d))
    (h : ∀ so s1, Inv (supX CX P w K mg base qual q1 q2 bd cc c f A outer s0 H0 E0) [] σ H s1 → s1.heap.get? so = some (PySem.W.ks_superObj D e C) → H so = none → Q (.ref so) s1) :
    _root_.PySem.wpAt (model P w) (A.deeper (envF (supNF qual q1 q2 bd cc c) f s0.heap.objs.size)) (.func body (envF (supNF qual q1 q2 bd cc c) f s0.heap.objs.size)) (attributeBase (.Call (.Name "super" p0) [] [] p1) "__init__" (envF (supNF qual q1 q2 bd cc c) f s0.heap.objs.size) whole) Q (supX CX P w K mg base qual q1 q2 bd cc c f A outer s0 H0 E0).xe s := by
  obtain ⟨oc, od, doc, pm, an, ctv, sl, lk⟩ := S.lk
  obtain ⟨cc1, cc2, cc3, lkc⟩ := S.cell
  obtain ⟨c1, c2, vs, c3, tf, lkf, hvs⟩ := S.file
  have KX : K.In s.heap := I.kIn
  obtain ⟨oD, cd, hD, hDt⟩ := clsIn_at KX S.clsD
  obtain ⟨t1, hx⟩ := exo_at I.hok he
  have hks : (envF (supNF qual q1 q2 bd cc c) f s0.heap.objs.size).kindOf "super" = some .globalImplicit := rfl
  have hkc : (envF (supNF qual q1 q2 bd cc c) f s0.heap.objs.size).kindOf "__class__" = some .free := rfl
  have hka : (envF (supNF qual q1 q2 bd cc c) f s0.heap.objs.size).kindOf "self" = some .local := rfl
  obtain ⟨m, hn, hl⟩ := I.loc
  obtain ⟨u, ru, lu⟩ := hl 0 "self" (.ref e) rfl e0 (.inl hka)
  obtain rfl : u = Value.ref e := ru
  have hself : m "self" = some (.ref e) := by
    rcases lu with ⟨_, z⟩ | ⟨z, _⟩
    · exact z
    · rcases z with z | z
      · exact absurd (hka.symm.trans z) (by decide)
      · exact absurd (hka.symm.trans z) (by decide)
  refine ks_wpAt_super_base (env := envF (supNF qual q1 q2 bd cc c) f s0.heap.objs.size) hks hkc (by decide) rfl (KX _ _ lk) rfl rfl rfl (KX _ _ lkf) rfl hvs (by simp) S.top ?_
  obtain ⟨mb, h1, h2⟩ := I.mod.blt
  refine PySem.W.ks_loadName_global rfl hks (Calls.loadGlobal_builtin (env := envF (supNF qual q1 q2 bd cc c) f s0.heap.objs.size) (by exact I.mod.glob.keeps I.bk) S.mgs (by exact h1.keeps I.bk) ((h2 _ (by decide)).trans (by decide +kernel)) ⟨rfl, ?_⟩)
  refine wpAny_loadName_free rfl hkc (c := cc) rfl ⟨_, KX _ _ lkc, rfl⟩ ?_
  refine wpAny_loadName_local rfl hka hn hself ?_
  refine ks_wpAny_isType_cls hD hDt ⟨rfl, ?_⟩
  have hsz : H s.heap.objs.size = none := I.hok.fresh (Nat.le_refl _)
  obtain ⟨hh, g, dr, t, os⟩ := s
  refine ks_wpAny_call_super hD hDt hx rfl (fun c z => nomatch z) (PySem.W.looks_mroIn KX hsub) (fun h' e' k => ?_)
  exact h _ _ (I.kept (t' := t) k) e' hsz

/-- what the class C of the exception says of the class D -/
structure SupC (K : PySem.W.Frag) (C D : Addr) (g : Value) : Prop where
  op : PySem.W.nsIn K cStatics "thirdparty.any" = some none
  sub : PySem.W.mroIn K C (.ref D) = some true
  tgt : PySem.W.ks_superIn K C D "__init__" = some (some g)
theorem exo_inst {e C : Addr} {d : Option Addr} {H : Hp} {P : Program} {w : World} {h : Heap} (hok : HOk P w H h) (he : H e = some (exo e C d)) {K : PySem.W.Frag} (X : K.In h) {cd : ClassData} (hc : PySem.W.clsIn K C = some cd) : e ≠ C := by
  rintro rfl
  obtain ⟨t1, q⟩ := exo_at hok he
  unfold PySem.W.clsIn at hc
  split at hc
  · rename_i c d cd' sl ho
    have e := X _ _ ho
    rw [q] at e
    cases e
  · cases hc
/-- the arguments, the bound method pinned -/
theorem sup_args {X : Cx} {σ : L2.St} {H : Hp} {s : Shared} {b : Addr} {o : Obj} {v : V} {p3 p4 : Pos} (hN : X.N = Nsup) (hv : X.env.scope.names.lookup ("place" : Str) = some .local)
    (I : Inv X [(b, o)] σ H s) (e1 : σ[1]? = some (some v)) :
    wpAny (model X.prog X.w) X.A (spliced (backTo p4 (starEach [.Name "place" p3] X.env))) (fun us s1 => ∃ u, us = [u] ∧ RelV v u ∧ Inv X [(b, o)] σ H s1) X.xe s := by
  have pv : PE X (.Name "place" p3) (tVar 1) := pe_var (by rw [hN]; rfl) (.inl hv)
  have pa : PA X [.Name "place" p3] (tCons (tVar 1) tNil) := pa_cons pv pa_nil
  refine thn (pa.run p4 [(b, o)] s σ H (fun vs H1 => vs = [v] ∧ H1 = H) I ⟨v, e1, rfl, rfl⟩) fun us s1 ⟨vs, H1, I1, r1, q1, q2⟩ => ?_
  subst q1 q2
  cases r1 with
  | cons ru rn =>
    cases rn
    exact ⟨_, rfl, ru, I1⟩
section
variable {σ : L2.St} {H : Hp} {s : Shared} {e C : Addr} {d : Option Addr} {v : V} {body : List Stmt} {p0 p1 p2 p3 p4 p5 : Pos} {Q : Shared → Prop}
/-- the statement super().__init__(place), the next class one of ours -/
theorem sup_own (S : SupF K P mg qual q1 q2 bd f D cc c) (hco : CallOk qual q1 q2 bd cc c f p0 p1 p2 p3 p4) {g : Addr} {fd : FuncData} {k : Nat} {sp : Sp} (SC : SupC K C D (.ref g)) (tg : PySem.W.typeIn K (.ref g) = some (.type "function")) (fg : PySem.W.fnIn K g = true)
    (G : FnOk P w K mg base CX0 k g fd (["self", "place"] : List Str) sp) (hr : Room k (A.deeper (envF (supNF qual q1 q2 bd cc c) f s0.heap.objs.size))) (hb : Binds K fd (["self", "place"] : List Str) [])
    (I : Inv (supX CX P w K mg base qual q1 q2 bd cc c f A outer s0 H0 E0) [] σ H s) (e0 : σ[0]? = some (some (.ref e))) (e1 : σ[1]? = some (some v)) (he : H e = some (exo e C d))
    (h : sp [.ref e, v] H (fun _ H' => ∀ s1, Inv (supX CX P w K mg base qual q1 q2 bd cc c f A outer s0 H0 E0) [] σ H' s1 → Q s1) (fun _ _ _ => False)) :
    _root_.PySem.wpAt (model P w) (A.deeper (envF (supNF qual q1 q2 bd cc c) f s0.heap.objs.size)) (.func body (envF (supNF qual q1 q2 bd cc c) f s0.heap.objs.size)) (exec (.Expr (supCall p0 p1 p2 p3 p4) p5) (envF (supNF qual q1 q2 bd cc c) f s0.heap.objs.size))
      (fun fl s' => fl = .next ∧ Q s') (supX CX P w K mg base qual q1 q2 bd cc c f A outer s0 H0 E0).xe s := by
  obtain ⟨pl, hpl⟩ := hco s0.heap.objs.size
  refine ks_wpAt_Expr_any (ks_wpAt_MethodCall (sup_node S I e0 SC.sub he fun so s1 I1 hso hn => ?_) hpl)
  have KX : K.In s1.heap := I1.kIn
  obtain ⟨hh, gg, dr, t, os⟩ := s1
  obtain ⟨of, hof, hofc⟩ : ∃ of, hh.get? g = some of ∧ of.cls = .type "function" := by
    have ht' : (K.lookup g).map (·.cls) = some (.type "function") := tg
    cases z : K.lookup g with
    | none => rw [z] at ht'; cases ht'
    | some of => rw [z] at ht'; exact ⟨of, KX _ _ z, Option.some.inj ht'⟩
  cases hc : PySem.W.clsIn K C with
  | none =>
    have z := SC.tgt
    unfold PySem.W.ks_superIn at z
    rw [hc] at z
    cases z
  | some cd =>
    have hm := SC.tgt
    unfold PySem.W.ks_superIn at hm
    rw [hc] at hm
    refine ks_wpAny_getMethod_super hso (PySem.W.looks_opaque KX SC.op) (l₀ := cd.mro) (fun A Q E s k q => wpAny_bind ((PySem.W.looks_clsIn KX hc) A _ E s k (wpAny_pure q))) rfl KX hm hof hofc (exo_inst I1.hok he KX hc) (by decide) ?_
    have hget : (hh.push (PySem.W.methodObj (.ref g) (.ref e))).get? hh.objs.size = some (PySem.W.methodObj (.ref g) (.ref e)) := Heap.get?_push_at rfl rfl
    have nb : H hh.objs.size = none := I1.hok.fresh (Nat.le_refl _)
    have I2 : Inv (supX CX P w K mg base qual q1 q2 bd cc c f A outer s0 H0 E0) [] σ H ⟨hh.push (PySem.W.methodObj (.ref g) (.ref e)), gg, dr, t + 1, os⟩ := I1.kept (t' := t + 1) fun _ _ z => Heap.get?_push_of_some _ z
    have I3 := inv_pin I2 hget nb (Ne.symm (Nat.ne_of_lt I1.lt)) (I1.nofs (Nat.le_refl _)) (fun c z => nomatch z)
    have gb : base.get? hh.objs.size = none := by
      cases z : base.get? hh.objs.size with
      | none => rfl
      | some o => exact absurd (Heap.lt_size ((I1.bs _ o z).1)) (Nat.lt_irrefl _)
    refine PySem.W.callWith_M (h₀ := base) (L := hh.objs.size + 1) (news := [(hh.objs.size, PySem.W.methodObj (.ref g) (.ref e))]) I1.mod.kin (fun p hp => ?_) (List.mem_cons_self ..) fg (thn (sup_args (X := supX CX P w K mg base qual q1 q2 bd cc c f A outer s0 H0 E0) rfl rfl I3 e1) fun us s2 ⟨u, eu, ru, I4⟩ => ?_)
    · obtain rfl : p = (hh.objs.size, PySem.W.methodObj (.ref g) (.ref e)) := by simpa using hp
      exact ⟨hget, Nat.ne_of_lt (Nat.lt_succ_self _), gb⟩
    · subst eu
      obtain ⟨hb2, _⟩ := I4.pin (hh.objs.size, PySem.W.methodObj (.ref g) (.ref e)) (List.mem_append_right _ (List.mem_cons_self ..))
      refine ⟨⟨hb2, I4.kIn⟩, ?_⟩
      show wpAny _ _ (call (.ref hh.objs.size) [u]) _ _ _
      have I5 := inv_unpin I4
      have bb := hb s2 [.ref e, u] I5.kIn rfl
      rw [List.append_nil] at bb
      refine wpAny_call (ks_codeAny_call_bound hb2 (codeAny_mono (G.run _ _ s2 H ⟨[.ref e, u], []⟩ [.ref e, u] [.ref e, v] _ _ hr I5.env0 bb (.cons rfl (.cons ru .nil)) h) fun r s' hq => ?_))
      cases r with
      | error er => exact hq.elim
      | ok fl =>
        cases fl with
        | ret x =>
          obtain ⟨v2, H', hos, bare, un, hok, rv, q⟩ := hq
          obtain ⟨h3, g3, d3, t3, os3⟩ := s'
          obtain rfl : os3 = s2.os := hos
          exact ⟨rfl, q _ (I5.call (h' := h3) (g' := g3) (d' := d3) (t' := t3) (ch := []) un hok bare (fun b z => absurd z (by simp)))⟩
        | next => exact False.elim hq
        | brk => exact False.elim hq
        | cont => exact False.elim hq
/-- .. the next class ValueError -/
theorem sup_base (S : SupF K P mg qual q1 q2 bd f D cc c) (hco : CallOk qual q1 q2 bd cc c f p0 p1 p2 p3 p4) (SC : SupC K C D (.builtin "ValueError.__init__")) (T : OexC K C) (hB : PySem.W.subIn K (.ref C) (.type "ValueError") = some true)
    (I : Inv (supX CX P w K mg base qual q1 q2 bd cc c f A outer s0 H0 E0) [] σ H s) (e0 : σ[0]? = some (some (.ref e))) (e1 : σ[1]? = some (some v)) (he : H e = some (exo e C none))
    (h : ∀ s1, Inv (supX CX P w K mg base qual q1 q2 bd cc c f A outer s0 H0 E0) [] σ H s1 → Q s1) :
    _root_.PySem.wpAt (model P w) (A.deeper (envF (supNF qual q1 q2 bd cc c) f s0.heap.objs.size)) (.func body (envF (supNF qual q1 q2 bd cc c) f s0.heap.objs.size)) (exec (.Expr (supCall p0 p1 p2 p3 p4) p5) (envF (supNF qual q1 q2 bd cc c) f s0.heap.objs.size))
      (fun fl s' => fl = .next ∧ Q s') (supX CX P w K mg base qual q1 q2 bd cc c f A outer s0 H0 E0).xe s := by
  obtain ⟨pl, hpl⟩ := hco s0.heap.objs.size
  refine ks_wpAt_Expr_any (ks_wpAt_MethodCall (sup_node S I e0 SC.sub he fun so s1 I1 hso hn => ?_) hpl)
  have KX : K.In s1.heap := I1.kIn
  obtain ⟨t1, hx⟩ := exo_at I1.hok he
  obtain ⟨hh, gg, dr, t, os⟩ := s1
  cases hc : PySem.W.clsIn K C with
  | none =>
    have z := SC.tgt
    unfold PySem.W.ks_superIn at z
    rw [hc] at z
    cases z
  | some cd =>
    have hm := SC.tgt
    unfold PySem.W.ks_superIn at hm
    rw [hc] at hm
    have hI : PySem.W.Looks (model P w) hh (isInstance (.ref e) (.type "ValueError")) true := (PySem.W.InstAt.type (M := model P w) (od := none) ⟨hx, rfl, rfl, trivial⟩).andThen (PySem.W.looks_subIn KX hB)
    refine PySem.W.kxs_getMethod PySem.W.kxs_ValueError hso (PySem.W.looks_opaque KX SC.op) (l₀ := cd.mro) (fun A Q E s k q => wpAny_bind ((PySem.W.looks_clsIn KX hc) A _ E s k (wpAny_pure q))) rfl KX hm hI (exo_inst I1.hok he KX hc) (by decide) ?_
    have hget : (hh.push (PySem.W.kxs_mw "ValueError.__init__" e)).get? hh.objs.size = some (PySem.W.kxs_mw "ValueError.__init__" e) := Heap.get?_push_at rfl rfl
    have nb : H hh.objs.size = none := I1.hok.fresh (Nat.le_refl _)
    have I2 : Inv (supX CX P w K mg base qual q1 q2 bd cc c f A outer s0 H0 E0) [] σ H ⟨hh.push (PySem.W.kxs_mw "ValueError.__init__" e), gg, dr, t + 1, os⟩ := I1.kept (t' := t + 1) fun _ _ z => Heap.get?_push_of_some _ z
    have I3 := inv_pin I2 hget nb (Ne.symm (Nat.ne_of_lt I1.lt)) (I1.nofs (Nat.le_refl _)) (fun c z => nomatch z)
    refine PySem.W.kxs_callWith (i := "ValueError.__init__") (x := e) rfl (PySem.Calls.evalArgs_plain (thn (sup_args (X := supX CX P w K mg base qual q1 q2 bd cc c f A outer s0 H0 E0) rfl rfl I3 e1) fun us s2 ⟨u, eu, ru, I4⟩ => ?_))
    subst eu
    obtain ⟨hb2, _⟩ := I4.pin (hh.objs.size, PySem.W.kxs_mw "ValueError.__init__" e) (List.mem_append_right _ (List.mem_cons_self ..))
    refine ⟨hb2, ?_⟩
    have I5 := inv_unpin I4
    show wpAny _ _ (call (.ref hh.objs.size) [u]) _ _ _
    obtain ⟨nm, q, N, bs, bm, sn, sub, ab, col, dd, k0, k1, k2, k3, k5, hC, hbm⟩ := T.cls
    obtain ⟨t2, hx2⟩ := exo_at I5.hok he
    obtain ⟨h2, g2, d2, tk2, os2⟩ := s2
    refine wpAny_call (codeAny_of_tree ?_)
    show wpAny _ (Around.in1 _) (callAny (.ref hh.objs.size) ⟨[u], []⟩) _ _ _
    simp only [callAny]
    refine wpAny_bind (wpAny_load hb2 ?_)
    simp only [PySem.W.kxs_mw, show (Value.type "method-wrapper" == Value.type "method" || Value.type "method-wrapper" == Value.type "builtin_function_or_method" || Value.type "method-wrapper" == Value.type "method-wrapper") = true by decide, if_true]
    refine PySem.W.KFB.if_so (by decide) ?_
    refine wpAny_bind (PySem.W.check_bound_init F.excBase_ValueError.toExcCallFacts (I5.kIn _ _ hC) hx2 rfl ?_)
    refine wpAny_bind (wpAny_pure (wpAny_pure ?_))
    refine ⟨PySem.plainId_quiet F.excBase_ValueError.init.plain _, codeAny_builtin F.excBase_ValueError.initEntry ?_⟩
    refine PySem.W.exc_init_tree (cls := .ref C) (t0 := t2) (dv := none) (c2 := .none) (c3 := .none) (b4 := .bool false) hx2 (by show 1 ≤ sizeLine; rw [sizeLine_eq]; decide) (fun h' k he' ht => ?_)
    have J := I5.write (t' := tk2) (x := e) (e := e) (o := exo e C none) (by rw [he]; exact True.intro) (.inl rfl) k ⟨_, he'⟩ (exo_ok he')
    have eu : upd H e (exo e C none) = H := by
      funext b
      by_cases hb : b = e
      · rw [hb, upd_same, he]
      · rw [upd_ne hb]
    rw [eu] at J
    exact ⟨by first | trivial | rfl, h _ J⟩
end
end
end VE
set_option Elab.async false
set_option maxRecDepth 100000
set_option maxHeartbeats 4000000
set_option linter.all false
set_option autoImplicit false
namespace VE
open PySem PySem.Spec PyProof.Rows L2 NdefX

section
variable {P : Program} {w : World} {K : PySem.W.Frag} {mg : Str → Option Value} {base : Heap} {qual : Str} {q1 q2 : Pos} {bd rest : List Stmt} {f D cc c : Addr} {p0 p1 p2 p3 p4 p5 : Pos}
abbrev supPs : List Str := ["self", "place"]
abbrev supSt (D : Addr) (vs : List V) : L2.St := startF Nsup vs [some (.ref D)]
theorem supScope : NScope Nsup supPs (["__class__"] : List Str) supSc := nscope_by (by decide +kernel)
theorem sup_fn {sp : Sp} {k : Nat} (S : SupF K P mg qual q1 q2 bd f D cc c) {fd : FuncData} (hfd : ∃ oc od doc pm an ctv sl, fd = PySem.W.fnX "__init__" qual (supAr q1 q2) bd supSc [("__class__", cc)] .none .none doc pm an (.ref c) ctv ∧ K.lookup f = some ⟨oc, od, .func fd, sl⟩)
    (hbd : bd = .Expr (supCall p0 p1 p2 p3 p4) p5 :: rest) (len : ∀ vs H Q E, sp vs H Q E → vs.length = 2)
    (hbody : ∀ (A : Around) (outer : List Env) (s0 : Shared) (H0 : Hp) (vs : List V) (Q : VK) (E0 : XK), Room k (A.deeper (envF (supNF qual q1 q2 bd cc c) f s0.heap.objs.size)) → sp vs H0 Q E0 →
      ∃ t, PSs (supX CX0 P w K mg base qual q1 q2 bd cc c f A outer s0 H0 E0) rest t ∧ ∀ s, Inv (supX CX0 P w K mg base qual q1 q2 bd cc c f A outer s0 H0 E0) [] (supSt D vs) H0 s →
        _root_.PySem.wpAt (model P w) (A.deeper (envF (supNF qual q1 q2 bd cc c) f s0.heap.objs.size)) (.func bd (envF (supNF qual q1 q2 bd cc c) f s0.heap.objs.size)) (exec (.Expr (supCall p0 p1 p2 p3 p4) p5) (envF (supNF qual q1 q2 bd cc c) f s0.heap.objs.size))
          (fun fl s' => fl = .next ∧ ∃ H1, Inv (supX CX0 P w K mg base qual q1 q2 bd cc c f A outer s0 H0 E0) [] (supSt D vs) H1 s' ∧ t { nx := fun _ H' => Q .non H', rt := Q } (supSt D vs) H1)
          (supX CX0 P w K mg base qual q1 q2 bd cc c f A outer s0 H0 E0).xe s) :
    FnOk P w K mg base CX0 (k + 1) f fd supPs sp := by
  subst hbd
  refine ⟨len, fun A outer s H args us vs Q E hr e0 hb r hsp => ?_⟩
  have hl := len _ _ _ _ hsp
  have KX : K.In s.heap := e0.mod.kin.keeps fun b o e => (e0.bs b o e).1
  have lim : s.heap.NoLimit := e0.mod.nolimit.keeps fun b o e => (e0.bs b o e).1
  obtain ⟨oc, od, doc, pm, an, ctv, sl, rfl, lk⟩ := hfd
  obtain ⟨k1, k2, k3, lkc⟩ := S.cell
  refine codeAny_call_function hr.depth (KX _ _ lk) rfl rfl rfl rfl (PySem.W.codeRec_of KX S.code) (hb _ _ _ _ ?_)
  refine wpAny_newFunctionEnv supScope.nocell (fun ⟨n, _⟩ hy => supScope.par n (List.of_mem_zip hy).1) (fun h₁ hns hsb => ⟨lim.fresh _ hsb, ?_⟩) rfl
  show codeAny _ _ (.func _ (envF (supNF qual q1 q2 rest cc c) f s.heap.objs.size)) _ _
  have kp : ∀ b o, s.heap.get? b = some o → h₁.get? b = some o := fun b o e => hsb.extBut b o (Nat.ne_of_lt (Heap.lt_size e)) (Heap.get?_push_of_some _ e)
  obtain ⟨t, ht, hq⟩ := hbody A outer s H vs Q E (hr.deeper _) hsp
  have cx : ∀ x c', ([(("__class__" : Str), cc)] : List (Str × Addr)).lookup x = some c' → x = "__class__" ∧ c' = cc := fun x c' e => by
    by_cases hx : x = ("__class__" : Str)
    · subst hx
      refine ⟨rfl, ?_⟩
      simp [List.lookup] at e
      exact e.symm
    · have : (x == ("__class__" : Str)) = false := by simpa using hx
      simp [List.lookup, this] at e
  have hcell : s.heap.IsCell cc (some (.ref D)) := ⟨_, KX _ _ lkc, rfl⟩
  have C : CellsAt (supNF qual q1 q2 rest cc c).cl (["__class__"] : List Str) [some (.ref D)] s.heap H := by
    refine ⟨rfl, fun y c' e => ?_, fun x y c' e1 e2 => (cx x c' e1).1.trans (cx y c' e2).1.symm, fun i y e => ?_⟩
    · obtain ⟨_, rfl⟩ := cx y c' e
      exact ⟨(e0.bs _ _ (e0.mod.kin _ _ lkc)).2, _, hcell⟩
    · cases i with
      | zero =>
        simp at e
        subst e
        exact ⟨cc, rfl, fun v hv => by
          simp at hv
          subst hv
          exact ⟨.ref D, rfl, hcell⟩⟩
      | succ i => simp at e
  have I : Inv (supX CX0 P w K mg base qual q1 q2 _ cc c f A outer s H E) [] (supSt D vs) H { s with heap := h₁, toks := s.toks + (supPs.zip us).length } := inv_startN supScope hr.hd e0 hl r C hns kp
  refine ks_codeAny_funcAt ?_
  have fin : ∀ {s' : Shared} {σ' : L2.St} {H' : Hp} {v : V} {u : Value}, Inv (supX CX0 P w K mg base qual q1 q2 (.Expr (supCall p0 p1 p2 p3 p4) p5 :: rest) cc c f A outer s H E) [] σ' H' s' → L2.RelV v u → Q v H' → CE outer P w H s Q u s' :=
    fun {s' σ' H' v u} J rv q => ⟨v, H', J.os, J.bare, J.base, J.hok, rv, q⟩
  refine ks_wpAt_execs_cons (ks_wpAt_mono (hq _ I) (fun fl s' hs => ?_) fun e s' hs => hs)
  obtain ⟨rfl, H1, I1, q⟩ := hs
  refine wpAt_of_wpAny (wpAny_mono (ht.run [] s' _ H1 _ I1 q) (fun fl s' hs => ?_) fun e s' hs => hs)
  cases fl with
  | ret u =>
    obtain ⟨v, σ', H', J, rv, q⟩ := hs
    exact fin J rv q
  | next =>
    obtain ⟨σ', H', J, q⟩ := hs
    exact fin (v := V.non) (u := Value.none) J rfl q
  | brk =>
    obtain ⟨_, _, _, q⟩ := hs
    exact False.elim q
  | cont =>
    obtain ⟨_, _, _, q⟩ := hs
    exact False.elim q

/-- behind an __init__: the exception's dict holds fs; nothing else is changed -/
structure ExEnd (H H' : Hp) (e C dx : Addr) (fs : List (Str × V)) : Prop where
  nd : H dx = none
  ne : dx ≠ e
  ex : H' e = some (exo e C (some dx))
  dc : H' dx = some (exd dx fs)
  rest : ∀ b, b ≠ e → b ≠ dx → H' b = H b
/-- what the class C of the exception says of names and makers -/
structure OwnC (K : PySem.W.Frag) (C : Addr) : Prop where
  ox : OexC K C
  ve : PySem.W.subIn K (.ref C) (.type "ValueError") = some true
  np : PySem.W.findIn K (.ref C) "place" = some none
  nn : PySem.W.findIn K (.ref C) "name" = some none
/-- CityError.__init__ -/
def spB (K : PySem.W.Frag) (D : Addr) (nm : Str) : Sp := fun vs H Q _ => ∃ e C p, vs = [.ref e, p] ∧ OwnC K C ∧ SupC K C D (.builtin "ValueError.__init__") ∧ H e = some (exo e C none) ∧
  ∀ dx H', ExEnd H H' e C dx [(("name" : Str), .str nm), (("place" : Str), p)] → Q .non H'
theorem fn_base {k : Nat} {fd : FuncData} {nm : Str} {r1 r2 r3 r4 r5 r6 r7 r8 : Pos} {j : Nat} (S : SupF K P mg qual q1 q2 bd f D cc c) (hco : CallOk qual q1 q2 bd cc c f p0 p1 p2 p3 p4)
    (hfd : ∃ oc od doc pm an ctv sl, fd = PySem.W.fnX "__init__" qual (supAr q1 q2) bd supSc [("__class__", cc)] .none .none doc pm an (.ref c) ctv ∧ K.lookup f = some ⟨oc, od, .func fd, sl⟩)
    (hbd : bd = [.Expr (supCall p0 p1 p2 p3 p4) p5, .Assign [.Attribute (.Name "self" r1) "place" r2] (.Name "place" r3) r4, .Assign [.Attribute (.Name "self" r5) "name" r6] (.Constant (.str nm) j r7) r8]) :
    FnOk P w K mg base CX0 (k + 1) f fd supPs (spB K D nm) := by
  subst hbd
  refine sup_fn S hfd rfl (fun vs H Q E ⟨e, C, p, h, _⟩ => by rw [h]; rfl) (fun A outer s0 H0 vs Q E0 hr hsp => ?_)
  obtain ⟨e, C, p, rfl, O, SC, he, q⟩ := hsp
  refine ⟨_, pss_cons (ps_ost (pe_var (i := 0) rfl (.inl rfl)) (pe_var (i := 1) rfl (.inl rfl))) (pss_one (ps_ost (pe_var (i := 0) rfl (.inl rfl)) pe_str)), fun s I => ?_⟩
  refine sup_base S hco SC O.ox O.ve I rfl rfl he fun s1 I1 => ⟨H0, I1, ?_⟩
  refine ⟨p, rfl, .ref e, rfl, e, C, rfl, O.ox, O.np, .inl ⟨he, fun dx nd ne => ?_⟩⟩
  refine ⟨.ref e, rfl, e, C, rfl, O.ox, O.nn, .inr ⟨dx, _, upd_same, by rw [upd_ne ne, upd_same], (by show 1 ≤ 900; decide), ?_⟩⟩
  exact q dx _ ⟨nd, ne, by rw [upd_ne (Ne.symm ne), upd_same], upd_same, fun b h1 h2 => by rw [upd_ne h2, upd_ne h1, upd_ne h2]⟩
/-- an __init__ of a class over CityError -/
def spO (K : PySem.W.Frag) (D : Addr) (g B : Addr) (bn nm : Str) : Sp := fun vs H Q _ => ∃ e C p, vs = [.ref e, p] ∧ OwnC K C ∧ SupC K C D (.ref g) ∧ SupC K C B (.builtin "ValueError.__init__") ∧ H e = some (exo e C none) ∧
  ∀ dx H', ExEnd H H' e C dx [(("name" : Str), .str nm), (("name" : Str), .str bn), (("place" : Str), p)] → Q .non H'
theorem fn_own {k : Nat} {fd fdg : FuncData} {nm bn : Str} {g B : Addr} {r5 r6 r7 r8 : Pos} {j : Nat} (S : SupF K P mg qual q1 q2 bd f D cc c) (hco : CallOk qual q1 q2 bd cc c f p0 p1 p2 p3 p4)
    (hfd : ∃ oc od doc pm an ctv sl, fd = PySem.W.fnX "__init__" qual (supAr q1 q2) bd supSc [("__class__", cc)] .none .none doc pm an (.ref c) ctv ∧ K.lookup f = some ⟨oc, od, .func fd, sl⟩)
    (G : FnOk P w K mg base CX0 k g fdg supPs (spB K B bn)) (hb : Binds K fdg supPs []) (tg : PySem.W.typeIn K (.ref g) = some (.type "function")) (fg : PySem.W.fnIn K g = true)
    (hbd : bd = [.Expr (supCall p0 p1 p2 p3 p4) p5, .Assign [.Attribute (.Name "self" r5) "name" r6] (.Constant (.str nm) j r7) r8]) :
    FnOk P w K mg base CX0 (k + 1) f fd supPs (spO K D g B bn nm) := by
  subst hbd
  refine sup_fn S hfd rfl (fun vs H Q E ⟨e, C, p, h, _⟩ => by rw [h]; rfl) (fun A outer s0 H0 vs Q E0 hr hsp => ?_)
  obtain ⟨e, C, p, rfl, O, SC, SB, he, q⟩ := hsp
  refine ⟨_, pss_one (ps_ost (pe_var (i := 0) rfl (.inl rfl)) pe_str), fun s I => ?_⟩
  refine sup_own S hco SC tg fg G hr hb I rfl rfl he ?_
  refine ⟨e, C, p, rfl, O, SB, he, fun dx H' z s1 I1 => ⟨H', I1, ?_⟩⟩
  refine ⟨.ref e, rfl, e, C, rfl, O.ox, O.nn, .inr ⟨dx, _, z.ex, z.dc, (by show 2 ≤ 900; decide), ?_⟩⟩
  exact q dx _ ⟨z.nd, z.ne, by rw [upd_ne (Ne.symm z.ne)]; exact z.ex, upd_same, fun b h1 h2 => by rw [upd_ne h2]; exact z.rest b h1 h2⟩
end
end VE
set_option Elab.async false
set_option maxRecDepth 100000
set_option maxHeartbeats 4000000
set_option linter.all false
set_option autoImplicit false
/-! Values without addresses, errors and instances too: what an expression gives, as a plain function. -/
namespace VM
open PySem L2

/-- a datum: nothing, bools, ints, texts; a list, a tuple, an instance (class number, field numbers, values), a dict, a set (of tuples or not) that nobody changes any more; an owned object by its number; a list that is locked; a def or class by its number -/
inductive D where
  | non | bl (b : Bool) | int (i : Int) | str (s : Str) | lst (ds : List D) | tup (ds : List D) | own (l : Nat) | lck (ds : List D) | ins (c : Nat) (ns : List Nat) (vs : List D) | dct (t : Bool) (ks vs : List D) | set (t : Bool) (ds : List D) | fn (n : Nat) | lam (a c : Addr) (q : Str) (us : List V) (ds : List D)
/-- an owned object -/
inductive SO where
  | lst (ds : List D) | ins (c : Nat) (ns : List Nat) (vs : List D) | dct (t : Bool) (ks vs : List D) | set (t : Bool) (ds : List D)
/-- an error: its class, its place -/
structure Exn where
  c : Nat
  p : D
abbrev Sto := List SO
abbrev Rho := List (Option D)
/-- the owned objects' places; those of lists that are just being made -/
structure Ws where
  own : List Addr
  hid : List Addr
/-- the written part: its objects, the defs and classes by number, the fields' names, the errors' names -/
structure Kt where
  K : PySem.W.Frag
  ad : Nat → Addr
  fld : List Str
  nm : Nat → Str
  ok : fld.Nodup
  P : Program
  w : World
  tabs : List (Addr × Str)
def Kt.f (T : Kt) (n : Nat) : Str := T.fld.getD n ""
/-- built-in types that are asked for -/
inductive TN where
  | int | bool | str | list | tuple | dict | set
def TN.nm : TN → String
  | .int => "int" | .bool => "bool" | .str => "str" | .list => "list" | .tuple => "tuple" | .dict => "dict" | .set => "set"
/-- what the written part says of a class of instances -/
structure InsC (K : PySem.W.Frag) (C : Addr) : Prop where
  cl : Cls K C
  ha : PySem.W.findIn K (.ref C) "__class__" = some (some (.builtin "object.__class__"))
  hn : PySem.W.specialIn K (.builtin "object.__class__") "__get__" = some (some (.builtin "getset_descriptor.__get__"))
  ht : PySem.W.takesIn K (.builtin "object.__class__") = some true
  hm : PySem.W.mroIn K C (.type "object") = some true
  nb : ∀ t : TN, PySem.W.kitOne K (.ref C) (.type t.nm) = some false
def InsOk (T : Kt) (c : Nat) (ns : List Nat) : Prop := InsC T.K (T.ad c) ∧ ∀ n ∈ ns, n < T.fld.length ∧ NoAttr T.K (T.ad c) (T.f n)
def keyD : Key → D
  | .inl i => .int i
  | .inr x => .str x
def setOk (S : Int → Bool) (n : Nat) (ds : List D) : Prop := ∃ is : List Int, ds = is.map D.int ∧ is.Nodup ∧ n = is.length ∧ S = fun i => decide (i ∈ is)
mutual
def Rep (T : Kt) (ws : Ws) (H : Hp) : D → V → Prop
  | .non, v => v = .non
  | .bl b, v => v = .bl b
  | .int i, v => v = .int i
  | .str x, v => v = .str x
  | .lst ds, v => ∃ a xs, v = .ref a ∧ H a = some (.lst xs) ∧ Reps T ws H ds xs
  | .tup ds, v => ∃ a xs, v = .ref a ∧ H a = some (.tup xs) ∧ Reps T ws H ds xs
  | .own l, v => ∃ a, ws.own[l]? = some a ∧ v = .ref a
  | .lck ds, v => ∃ a xs, v = .ref a ∧ SqL T.K H a xs ∧ Reps T ws H ds xs
  | .ins c ns vs, v => ∃ a dx fs, v = .ref a ∧ H a = some (.ins (T.ad c) dx fs) ∧ InsOk T c ns ∧ fs.map (·.1) = ns.map T.f ∧ Reps T ws H vs (fs.map (·.2))
  | .dct t ks vs, v => ∃ a, v = .ref a ∧ ((t = false ∧ ∃ kvs : List (Key × V), H a = some (.dK kvs) ∧ ks = kvs.map (fun p => keyD p.1) ∧ Reps T ws H vs (kvs.map (·.2))) ∨
      (t = true ∧ ∃ kvs : List (List Key × V), H a = some (.dT kvs) ∧ ks = kvs.map (fun p => .tup (p.1.map keyD)) ∧ Reps T ws H vs (kvs.map (·.2))))
  | .set t ds, v => ∃ a, v = .ref a ∧ ((t = false ∧ ∃ S n, H a = some (SetO T.w a S n) ∧ setOk S n ds) ∨ (t = true ∧ ∃ L : List (Addr × List Int), H a = some (SetTO T.P T.w a L) ∧ ds = L.map (fun p => .tup (p.2.map D.int)) ∧ ∀ p ∈ L, SqT T.K H p.1 (p.2.map V.int)))
  | .fn n, v => v = .ref (T.ad n)
  | .lam a c q us ds, v => v = .ref a ∧ H c = some (LamX.CodeO c q) ∧ Reps T ws H ds us
def Reps (T : Kt) (ws : Ws) (H : Hp) : List D → List V → Prop
  | [], vs => vs = []
  | d :: ds, vs => ∃ v r, vs = v :: r ∧ Rep T ws H d v ∧ Reps T ws H ds r
end

/-- no table of code objects -/
def noTb : Option HO → Option HO
  | some (.tbl _) => none
  | o => o
/-- the heap without the owned objects, without tables -/
def mask (ws : Ws) (H : Hp) : Hp := fun a => if a ∈ ws.own ∨ a ∈ ws.hid then none else noTb (H a)
theorem noTb_some {x : Option HO} {o : HO} (h : noTb x = some o) : x = some o ∧ noTb (some o) = some o := by
  unfold noTb at h
  split at h
  · cases h
  · subst h
    rename_i n
    refine ⟨rfl, ?_⟩
    unfold noTb
    split
    · rename_i ps e
      exact absurd e (n ps)
    · rfl
theorem mask_some {ws : Ws} {H : Hp} {a : Addr} {o : HO} (h : mask ws H a = some o) : (a ∉ ws.own ∧ a ∉ ws.hid) ∧ H a = some o := by
  unfold mask at h
  split at h
  · cases h
  · rename_i n
    exact ⟨⟨fun z => n (.inl z), fun z => n (.inr z)⟩, (noTb_some h).1⟩
theorem mask_nt {ws : Ws} {H : Hp} {a : Addr} {o : HO} (h : mask ws H a = some o) : noTb (some o) = some o := by
  unfold mask at h
  split at h
  · cases h
  · exact (noTb_some h).2
theorem mask_of {ws : Ws} {H : Hp} {a : Addr} (h : a ∉ ws.own ∧ a ∉ ws.hid) : mask ws H a = noTb (H a) := by
  unfold mask
  rw [if_neg (fun z => z.elim h.1 h.2)]
theorem mask_in {ws : Ws} {H : Hp} {a : Addr} {o : HO} (h : a ∉ ws.own ∧ a ∉ ws.hid) (e : H a = some o) (nt : noTb (some o) = some o) : mask ws H a = some o := by
  rw [mask_of h, e]
  exact nt
theorem tabs_upd {L : List (Addr × Str)} {H : Hp} {a : Addr} {o o0 : HO} (t : LamX.Tabs L H) (h : H a = some o0) (n1 : ∀ ps, o0 ≠ .tbl ps) (n2 : ∀ c q, o0 ≠ LamX.CodeO c q) : LamX.Tabs L (upd H a o) := fun p hp => by
  obtain ⟨ps, h1, h2, h3⟩ := t p hp
  have hne : ∀ {b u}, H b = some u → u ≠ o0 → upd H a o b = some u := fun {b u} e n => by
    rw [upd_ne fun z => n (by rw [z, h] at e; exact (Option.some.inj e).symm)]
    exact e
  refine ⟨ps, hne h1 fun z => n1 ps z.symm, h2, fun pos cv hc => ?_⟩
  obtain ⟨c, e1, e2⟩ := h3 pos cv hc
  exact ⟨c, e1, hne e2 fun z => n2 c p.2 z.symm⟩
theorem tabs_new {L : List (Addr × Str)} {H : Hp} {a : Addr} {o : HO} (t : LamX.Tabs L H) (h : H a = none) : LamX.Tabs L (upd H a o) := t.ext fun b u e => by
  rw [upd_ne (ne_of_none e h)]
  exact e
theorem tabs_lst {L : List (Addr × Str)} {H : Hp} {a : Addr} {o : HO} {xs : List V} (t : LamX.Tabs L H) (h : H a = some (.lst xs)) : LamX.Tabs L (upd H a o) := tabs_upd t h (fun _ z => nomatch z) fun _ _ z => by
  unfold LamX.CodeO at z
  cases z
theorem tabs_dK {L : List (Addr × Str)} {H : Hp} {a : Addr} {o : HO} {xs : List (Key × V)} (t : LamX.Tabs L H) (h : H a = some (.dK xs)) : LamX.Tabs L (upd H a o) := tabs_upd t h (fun _ z => nomatch z) fun _ _ z => by
  unfold LamX.CodeO at z
  cases z
/-- what was frozen stays -/
structure Stp (ws : Ws) (H : Hp) (ws' : Ws) (H' : Hp) : Prop where
  pre : ws.own <+: ws'.own
  hid : ∀ a, a ∈ ws.hid → a ∈ ws'.hid
  fz : ∀ a o, mask ws H a = some o → mask ws' H' a = some o
  hk : ∀ a ∈ ws.hid, H' a = H a
theorem Stp.refl (ws : Ws) (H : Hp) : Stp ws H ws H := ⟨List.prefix_refl _, fun _ z => z, fun _ _ h => h, fun _ _ => rfl⟩
theorem Stp.trans {ws ws1 ws2 : Ws} {H H1 H2 : Hp} (a : Stp ws H ws1 H1) (b : Stp ws1 H1 ws2 H2) : Stp ws H ws2 H2 :=
  ⟨a.pre.trans b.pre, fun c h => b.hid c (a.hid c h), fun c o h => b.fz c o (a.fz c o h), fun c h => (b.hk c (a.hid c h)).trans (a.hk c h)⟩
theorem sqL_mono {K : PySem.W.Frag} {H H' : Hp} (e : ∀ a o, H a = some o → H' a = some o) {a : Addr} {xs : List V} (h : SqL K H a xs) : SqL K H' a xs := by
  rcases h with (h | ⟨o, h⟩) | h
  · exact .inl (.inl (e _ _ h))
  · exact .inl (.inr ⟨o, e _ _ h⟩)
  · exact .inr h
theorem sqT_mono {K : PySem.W.Frag} {H H' : Hp} (e : ∀ a o, H a = some o → H' a = some o) {a : Addr} {xs : List V} (h : SqT K H a xs) : SqT K H' a xs := by
  rcases h with (h | ⟨o, h⟩) | h
  · exact .inl (.inl (e _ _ h))
  · exact .inl (.inr ⟨o, e _ _ h⟩)
  · exact .inr h
theorem sqL_un {K : PySem.W.Frag} {ws : Ws} {H : Hp} {a : Addr} {xs : List V} (h : SqL K (mask ws H) a xs) : SqL K H a xs := sqL_mono (fun _ _ z => (mask_some z).2) h
theorem sqT_un {K : PySem.W.Frag} {ws : Ws} {H : Hp} {a : Addr} {xs : List V} (h : mask ws H a = some (.tup xs)) : SqT K H a xs := .inl (.inl (mask_some h).2)
theorem pre_get {ws ws' : List Addr} (p : ws <+: ws') {l : Nat} {a : Addr} (h : ws[l]? = some a) : ws'[l]? = some a := by
  obtain ⟨t, rfl⟩ := p
  have := (List.getElem?_eq_some_iff.mp h).1
  rw [List.getElem?_append_left this]
  exact h
mutual
theorem Rep.mono {T : Kt} {ws ws' : Ws} {H H' : Hp} (p : ws.own <+: ws'.own) (e : ∀ a o, H a = some o → H' a = some o) : ∀ (d : D) (v : V), Rep T ws H d v → Rep T ws' H' d v
  | .non, _, h => h
  | .bl _, _, h => h
  | .int _, _, h => h
  | .str _, _, h => h
  | .lst ds, _, ⟨a, xs, hv, hs, hr⟩ => ⟨a, xs, hv, e _ _ hs, Reps.mono p e ds xs hr⟩
  | .lck ds, _, ⟨a, xs, hv, hs, hr⟩ => ⟨a, xs, hv, sqL_mono e hs, Reps.mono p e ds xs hr⟩
  | .tup ds, _, ⟨a, xs, hv, hs, hr⟩ => ⟨a, xs, hv, e _ _ hs, Reps.mono p e ds xs hr⟩
  | .own _, _, ⟨a, h, hv⟩ => ⟨a, pre_get p h, hv⟩
  | .ins c ns ds, _, ⟨a, dx, fs, hv, hs, hb, hn, hr⟩ => ⟨a, dx, fs, hv, e _ _ hs, hb, hn, Reps.mono p e ds _ hr⟩
  | .dct t ks ds, _, ⟨a, hv, h⟩ => ⟨a, hv, h.elim (fun ⟨t, kvs, h1, h2, h3⟩ => .inl ⟨t, kvs, e _ _ h1, h2, Reps.mono p e ds _ h3⟩) fun ⟨t, kvs, h1, h2, h3⟩ => .inr ⟨t, kvs, e _ _ h1, h2, Reps.mono p e ds _ h3⟩⟩
  | .set t ds, _, ⟨a, hv, h⟩ => ⟨a, hv, h.imp (fun ⟨t, S, n, h1, h2⟩ => ⟨t, S, n, e _ _ h1, h2⟩) fun ⟨t, L, h1, h2, h3⟩ => ⟨t, L, e _ _ h1, h2, fun p hp => sqT_mono e (h3 p hp)⟩⟩
  | .fn _, _, h => h
  | .lam _ _ _ us ds, _, ⟨hv, hc, hr⟩ => ⟨hv, e _ _ hc, Reps.mono p e ds us hr⟩
theorem Reps.mono {T : Kt} {ws ws' : Ws} {H H' : Hp} (p : ws.own <+: ws'.own) (e : ∀ a o, H a = some o → H' a = some o) : ∀ (ds : List D) (vs : List V), Reps T ws H ds vs → Reps T ws' H' ds vs
  | [], _, h => h
  | d :: ds, _, ⟨v, r, hv, h1, h2⟩ => ⟨v, r, hv, Rep.mono p e d v h1, Reps.mono p e ds r h2⟩
end
theorem Rep.stp {T : Kt} {ws ws' : Ws} {H H' : Hp} (t : Stp ws H ws' H') {d : D} {v : V} (h : Rep T ws (mask ws H) d v) : Rep T ws' (mask ws' H') d v := Rep.mono t.pre t.fz d v h
theorem Reps.stp {T : Kt} {ws ws' : Ws} {H H' : Hp} (t : Stp ws H ws' H') {d : List D} {v : List V} (h : Reps T ws (mask ws H) d v) : Reps T ws' (mask ws' H') d v := Reps.mono t.pre t.fz d v h
/-- as Stp, but what is hidden may change -/
structure Stq (ws : Ws) (H : Hp) (ws' : Ws) (H' : Hp) : Prop where
  pre : ws.own <+: ws'.own
  hid : ∀ a, a ∈ ws.hid → a ∈ ws'.hid
  fz : ∀ a o, mask ws H a = some o → mask ws' H' a = some o
theorem Stp.q {ws ws' : Ws} {H H' : Hp} (t : Stp ws H ws' H') : Stq ws H ws' H' := ⟨t.pre, t.hid, t.fz⟩
theorem Stq.trans {ws ws1 ws2 : Ws} {H H1 H2 : Hp} (a : Stq ws H ws1 H1) (b : Stq ws1 H1 ws2 H2) : Stq ws H ws2 H2 :=
  ⟨a.pre.trans b.pre, fun c h => b.hid c (a.hid c h), fun c o h => b.fz c o (a.fz c o h)⟩
theorem Rep.stq {T : Kt} {ws ws' : Ws} {H H' : Hp} (t : Stq ws H ws' H') {d : D} {v : V} (h : Rep T ws (mask ws H) d v) : Rep T ws' (mask ws' H') d v := Rep.mono t.pre t.fz d v h
theorem Reps.stq {T : Kt} {ws ws' : Ws} {H H' : Hp} (t : Stq ws H ws' H') {d : List D} {v : List V} (h : Reps T ws (mask ws H) d v) : Reps T ws' (mask ws' H') d v := Reps.mono t.pre t.fz d v h
theorem Reps.length {T : Kt} {ws : Ws} {H : Hp} : ∀ {ds : List D} {vs : List V}, Reps T ws H ds vs → ds.length = vs.length
  | [], _, h => by cases h; rfl
  | d :: ds, _, ⟨v, r, hv, _, h2⟩ => by rw [hv, List.length_cons, List.length_cons, Reps.length h2]
theorem Reps.get {T : Kt} {ws : Ws} {H : Hp} : ∀ {ds : List D} {vs : List V} {i : Nat} {d : D}, Reps T ws H ds vs → ds[i]? = some d → ∃ v, vs[i]? = some v ∧ Rep T ws H d v
  | [], _, _, _, _, e => by simp at e
  | d :: ds, _, 0, _, ⟨v, r, hv, h1, _⟩, e => by simp at e; subst e; exact ⟨v, by rw [hv]; rfl, h1⟩
  | d :: ds, _, i + 1, _, ⟨v, r, hv, _, h2⟩, e => by
    obtain ⟨v', e', h'⟩ := Reps.get (i := i) h2 (by simpa using e)
    exact ⟨v', by rw [hv]; simpa using e', h'⟩
theorem Reps.get' {T : Kt} {ws : Ws} {H : Hp} : ∀ {ds : List D} {vs : List V} {i : Nat} {v : V}, Reps T ws H ds vs → vs[i]? = some v → ∃ d, ds[i]? = some d ∧ Rep T ws H d v
  | [], _, _, _, h, e => by cases h; simp at e
  | d :: ds, _, 0, _, ⟨v, r, hv, h1, _⟩, e => by rw [hv] at e; simp at e; subst e; exact ⟨d, rfl, h1⟩
  | d :: ds, _, i + 1, _, ⟨v, r, hv, _, h2⟩, e => by
    rw [hv] at e
    obtain ⟨v', e', h'⟩ := Reps.get' (i := i) h2 (by simpa using e)
    exact ⟨v', by simpa using e', h'⟩
theorem Reps.append {T : Kt} {ws : Ws} {H : Hp} : ∀ {ds es : List D} {vs us : List V}, Reps T ws H ds vs → Reps T ws H es us → Reps T ws H (ds ++ es) (vs ++ us)
  | [], _, _, _, h, g => by cases h; exact g
  | d :: ds, _, _, _, ⟨v, r, hv, h1, h2⟩, g => by rw [hv]; exact ⟨v, _, rfl, h1, Reps.append h2 g⟩
theorem Reps.take {T : Kt} {ws : Ws} {H : Hp} : ∀ {ds : List D} {vs : List V} (n : Nat), Reps T ws H ds vs → Reps T ws H (ds.take n) (vs.take n)
  | _, _, 0, _ => by rw [List.take_zero, List.take_zero]; rfl
  | [], _, _ + 1, h => by cases h; rfl
  | d :: ds, _, n + 1, ⟨v, r, hv, h1, h2⟩ => by rw [hv]; exact ⟨v, _, rfl, h1, Reps.take n h2⟩
theorem Reps.drop {T : Kt} {ws : Ws} {H : Hp} : ∀ {ds : List D} {vs : List V} (n : Nat), Reps T ws H ds vs → Reps T ws H (ds.drop n) (vs.drop n)
  | _, _, 0, h => h
  | [], _, _ + 1, h => by cases h; rfl
  | d :: ds, _, n + 1, ⟨v, r, hv, h1, h2⟩ => by rw [hv]; exact Reps.drop n h2
theorem Reps.set {T : Kt} {ws : Ws} {H : Hp} {x : D} {u : V} (hx : Rep T ws H x u) : ∀ {ds : List D} {vs : List V} (n : Nat), Reps T ws H ds vs → Reps T ws H (ds.set n x) (vs.set n u)
  | [], _, _, h => by cases h; rfl
  | d :: ds, _, 0, ⟨v, r, hv, h1, h2⟩ => by rw [hv]; exact ⟨u, r, rfl, hx, h2⟩
  | d :: ds, _, n + 1, ⟨v, r, hv, h1, h2⟩ => by rw [hv]; exact ⟨v, _, rfl, h1, Reps.set hx n h2⟩
theorem Reps.replicate {T : Kt} {ws : Ws} {H : Hp} {ds : List D} {vs : List V} (h : Reps T ws H ds vs) : ∀ n : Nat, Reps T ws H (List.replicate n ds).flatten (List.replicate n vs).flatten
  | 0 => rfl
  | n + 1 => by rw [List.replicate_succ, List.replicate_succ, List.flatten_cons, List.flatten_cons]; exact h.append (Reps.replicate h n)

/-- an object's description tells what is owned there -/
def SoRel (T : Kt) (ws : Ws) (M : Hp) : HO → SO → Prop
  | .lst xs, .lst ds => Reps T ws M ds xs
  | .ins C _ fs, .ins c ns vs => C = T.ad c ∧ InsOk T c ns ∧ fs.map (·.1) = ns.map T.f ∧ Reps T ws M vs (fs.map (·.2))
  | .dK kvs, .dct t ks vs => t = false ∧ ks = kvs.map (fun p => keyD p.1) ∧ Reps T ws M vs (kvs.map (·.2))
  | .dT kvs, .dct t ks vs => t = true ∧ ks = kvs.map (fun p => .tup (p.1.map keyD)) ∧ Reps T ws M vs (kvs.map (·.2))
  | _, _ => False
theorem SoRel.mono {T : Kt} {ws ws' : Ws} {H H' : Hp} (p : ws.own <+: ws'.own) (e : ∀ a o, H a = some o → H' a = some o) {o : HO} {so : SO} (h : SoRel T ws H o so) : SoRel T ws' H' o so := by
  cases so with
  | lst ds => cases o <;> first | exact h.elim | exact Reps.mono p e _ _ h
  | ins c ns vs => cases o <;> first | exact h.elim | exact ⟨h.1, h.2.1, h.2.2.1, Reps.mono p e _ _ h.2.2.2⟩
  | dct t ks vs => cases o <;> first | exact h.elim | exact ⟨h.1, h.2.1, Reps.mono p e _ _ h.2.2⟩
  | set t ds => cases o <;> exact h.elim
theorem SoRel.stp {T : Kt} {ws ws' : Ws} {H H' : Hp} (t : Stp ws H ws' H') {o : HO} {so : SO} (h : SoRel T ws (mask ws H) o so) : SoRel T ws' (mask ws' H') o so := h.mono t.pre t.fz
theorem sorel_nt {T : Kt} {ws : Ws} {M : Hp} {o : HO} {so : SO} (h : SoRel T ws M o so) : noTb (some o) = some o := by
  cases o <;> first | exact h.elim | rfl
/-- an object that may be hidden -/
def HidO : HO → Prop
  | .tbl _ => False
  | .ext _ => False
  | _ => True
/-- the owned objects as they stand -/
structure Sta (T : Kt) (ws : Ws) (H : Hp) (s : Sto) : Prop where
  nd : ws.own.Nodup
  len : ws.own.length = s.length
  dis : ∀ a ∈ ws.hid, a ∉ ws.own
  hid : ∀ a ∈ ws.hid, ∃ o, H a = some o ∧ HidO o
  own : ∀ (l : Nat) (a : Addr) (so : SO), ws.own[l]? = some a → s[l]? = some so → ∃ o, H a = some o ∧ SoRel T ws (mask ws H) o so
  tab : LamX.Tabs T.tabs H
section
variable {T : Kt} {ws : Ws} {H : Hp} {s : Sto} {p : Addr} {o : HO}
theorem Sta.there (S : Sta T ws H s) {a : Addr} (h : a ∈ ws.own) : ∃ o, H a = some o := by
  obtain ⟨l, hl, rfl⟩ := List.getElem_of_mem h
  have e : ws.own[l]? = some ws.own[l] := List.getElem?_eq_getElem hl
  have h2 : l < s.length := by rw [← S.len]; exact hl
  obtain ⟨xs, h3, _⟩ := S.own l _ s[l] e (List.getElem?_eq_getElem h2)
  exact ⟨_, h3⟩
theorem Sta.fresh (S : Sta T ws H s) (h : H p = none) : p ∉ ws.own ∧ p ∉ ws.hid := by
  refine ⟨fun z => ?_, fun z => ?_⟩
  · obtain ⟨o, e⟩ := S.there z
    rw [h] at e
    cases e
  · obtain ⟨o, e, _⟩ := S.hid p z
    rw [h] at e
    cases e
/-- a new object that is not owned -/
theorem Sta.stp_new (S : Sta T ws H s) (h : H p = none) : Stp ws H ws (upd H p o) :=
  ⟨List.prefix_refl _, fun _ z => z, fun a u e => by
    have nt := mask_nt e
    obtain ⟨n, e⟩ := mask_some e
    exact mask_in n (by rw [upd_ne (ne_of_none e h)]; exact e) nt, fun a z => upd_ne fun e => (S.fresh h).2 (e ▸ z)⟩
theorem Sta.new (S : Sta T ws H s) (h : H p = none) : Sta T ws (upd H p o) s :=
  ⟨S.nd, S.len, S.dis, fun a z => by
    obtain ⟨u, e, hd⟩ := S.hid a z
    exact ⟨u, by rw [upd_ne (ne_of_none e h)]; exact e, hd⟩, fun l a ds e1 e2 => by
    obtain ⟨xs, h1, h2⟩ := S.own l a ds e1 e2
    exact ⟨xs, by rw [upd_ne (ne_of_none h1 h)]; exact h1, h2.stp (S.stp_new h)⟩, tabs_new S.tab h⟩
theorem Sta.at_new (S : Sta T ws H s) (h : H p = none) (nt : noTb (some o) = some o := by rfl) : mask ws (upd H p o) p = some o := mask_in (S.fresh h) upd_same nt
/-- a new object that is owned -/
abbrev Ws.add (ws : Ws) (p : Addr) : Ws := ⟨ws.own ++ [p], ws.hid⟩
theorem Sta.stp_own (S : Sta T ws H s) (h : H p = none) : Stp ws H (ws.add p) (upd H p o) :=
  ⟨List.prefix_append _ _, fun _ z => z, fun a u e => by
    have nt := mask_nt e
    obtain ⟨n, e⟩ := mask_some e
    have hne := ne_of_none e h
    exact mask_in (ws := ws.add p) ⟨fun z => (List.mem_append.mp z).elim n.1 fun z => hne (by simpa using z), n.2⟩ (by rw [upd_ne hne]; exact e) nt, fun a z => upd_ne fun e => (S.fresh h).2 (e ▸ z)⟩
theorem nodup_snoc {α : Type} {l : List α} {a : α} (h : l.Nodup) (n : a ∉ l) : (l ++ [a]).Nodup := by
  rw [List.nodup_append]
  refine ⟨h, by simp, fun x hx y hy e => ?_⟩
  have : y = a := by simpa using hy
  subst this
  subst e
  exact n hx
theorem Sta.newOwn (S : Sta T ws H s) {so : SO} (h : H p = none) (r : SoRel T ws (mask ws H) o so) : Sta T (ws.add p) (upd H p o) (s ++ [so]) := by
  have t : Stp ws H (ws.add p) (upd H p o) := S.stp_own h
  refine ⟨nodup_snoc S.nd (S.fresh h).1, by rw [List.length_append, List.length_append, S.len] <;> rfl, fun a z q => ?_, fun a z => ?_, fun l a es e1 e2 => ?_, tabs_new S.tab h⟩
  · rcases List.mem_append.mp q with q | q
    · exact S.dis a z q
    · have : a = p := by simpa using q
      exact (S.fresh h).2 (this ▸ z)
  · obtain ⟨u, e, hd⟩ := S.hid a z
    exact ⟨u, by rw [upd_ne (ne_of_none e h)]; exact e, hd⟩
  by_cases hl : l < ws.own.length
  · rw [List.getElem?_append_left hl] at e1
    rw [List.getElem?_append_left (by rw [← S.len]; exact hl)] at e2
    obtain ⟨ys, h1, h2⟩ := S.own l a es e1 e2
    exact ⟨ys, by rw [upd_ne (ne_of_none h1 h)]; exact h1, h2.stp t⟩
  · have hl' : l = ws.own.length := by
      have := (List.getElem?_eq_some_iff.mp e1).1
      rw [List.length_append] at this
      simp at this
      omega
    subst hl'
    rw [List.getElem?_append_right (Nat.le_refl _)] at e1
    rw [List.getElem?_append_right (by rw [S.len]; exact Nat.le_refl _)] at e2
    simp [S.len] at e1 e2
    subst e1 e2
    exact ⟨o, upd_same, r.stp t⟩
/-- an owned object is written -/
theorem Sta.stp_put (S : Sta T ws H s) {l : Nat} {a : Addr} {o : HO} (e : ws.own[l]? = some a) : Stp ws H ws (upd H a o) :=
  ⟨List.prefix_refl _, fun _ z => z, fun b u h => by
    have nt := mask_nt h
    obtain ⟨n, h⟩ := mask_some h
    have hne : b ≠ a := fun z => n.1 (by rw [z]; exact List.mem_of_getElem? e)
    exact mask_in n (by rw [upd_ne hne]; exact h) nt, fun b z => upd_ne fun q => S.dis b z (by rw [q]; exact List.mem_of_getElem? e)⟩
theorem Sta.put (S : Sta T ws H s) {l : Nat} {a : Addr} {so : SO} {o : HO} (e : ws.own[l]? = some a) (r : SoRel T ws (mask ws H) o so) : Sta T ws (upd H a o) (s.set l so) := by
  have t : Stp ws H ws (upd H a o) := S.stp_put e
  have tb : LamX.Tabs T.tabs (upd H a o) := by
    have hl : l < s.length := by rw [← S.len]; exact (List.getElem?_eq_some_iff.mp e).1
    obtain ⟨o0, h1, h2⟩ := S.own l a s[l] e (List.getElem?_eq_getElem hl)
    refine tabs_upd S.tab h1 (fun ps z => ?_) fun c q z => ?_
    · subst z
      exact h2.elim
    · unfold LamX.CodeO at z
      subst z
      exact h2.elim
  refine ⟨S.nd, by rw [List.length_set]; exact S.len, S.dis, fun b z => ?_, fun k b es e1 e2 => ?_, tb⟩
  · rw [t.hk b z]
    exact S.hid b z
  by_cases hk : k = l
  · subst hk
    rw [e] at e1
    cases e1
    have hl : k < s.length := by rw [← S.len]; exact (List.getElem?_eq_some_iff.mp e).1
    rw [List.getElem?_set_self hl] at e2
    cases e2
    exact ⟨o, upd_same, r.stp t⟩
  · rw [List.getElem?_set_ne (Ne.symm hk)] at e2
    obtain ⟨ys, h1, h2⟩ := S.own k b es e1 e2
    have hb : b ≠ a := fun z => by
      subst z
      exact hk (nd_ix S.nd e1 e)
    exact ⟨ys, by rw [upd_ne hb]; exact h1, h2.stp t⟩
/-- what an owned list holds -/
def lstAt (s : Sto) (l : Nat) : Option (List D) := match s[l]? with
  | some (.lst ds) => some ds
  | _ => none
theorem lstAt_some {s : Sto} {l : Nat} {ds : List D} (h : lstAt s l = some ds) : s[l]? = some (.lst ds) := by
  unfold lstAt at h
  split at h
  · cases h; assumption
  · cases h
theorem Sta.lst (S : Sta T ws H s) {l : Nat} {a : Addr} {ds : List D} (e : ws.own[l]? = some a) (h : lstAt s l = some ds) : ∃ xs, H a = some (.lst xs) ∧ Reps T ws (mask ws H) ds xs := by
  obtain ⟨o, h1, h2⟩ := S.own l a _ e (lstAt_some h)
  cases o <;> first | exact h2.elim | exact ⟨_, h1, h2⟩
end

/-- the error that an except suite holds: its slot, its object, its dict -/
structure Sx where
  i : Nat
  a : Addr
  dx : Option Addr
  e : Exn
/-- what a derivation is over: the table, the wish about errors, the suite's error -/
structure Cn where
  T : Kt
  W : WX
  x : Option Sx
abbrev nsl (x : Option Sx) (i : Nat) : Prop := match x with
  | none => True
  | some q => q.i ≠ i
def ExRep (T : Kt) (ws : Ws) (H : Hp) (e : Exn) (cls : Value) (dx : Option Addr) : Prop := cls = .ref (T.ad e.c) ∧ ∃ d fs v, dx = some d ∧ mask ws H d = some (.xd fs) ∧ fs.lookup ("place" : Str) = some v ∧ Rep T ws (mask ws H) e.p v ∧ fs.lookup ("name" : Str) = some (.str (T.nm e.c))
theorem ExRep.stp {T : Kt} {ws ws' : Ws} {H H' : Hp} {e : Exn} {cls : Value} {dx : Option Addr} (t : Stp ws H ws' H') (h : ExRep T ws H e cls dx) : ExRep T ws' H' e cls dx :=
  let ⟨h1, d, fs, v, h2, h3, h4, h5, h6⟩ := h
  ⟨h1, d, fs, v, h2, t.fz _ _ h3, h4, h5.stp t, h6⟩
/-- the names' values -/
structure EnvOk (T : Kt) (x : Option Sx) (ws : Ws) (H : Hp) (σ : L2.St) (ρ : Rho) : Prop where
  len : σ.length = ρ.length
  at_ : ∀ (i : Nat) (d : D), ρ[i]? = some (some d) → ∃ v, σ[i]? = some (some v) ∧ Rep T ws (mask ws H) d v
  ex : ∀ q, x = some q → σ[q.i]? = some (some (.ref q.a)) ∧ ∃ cls, ExRep T ws H q.e cls q.dx
theorem EnvOk.stp {T : Kt} {x : Option Sx} {ws ws' : Ws} {H H' : Hp} {σ : L2.St} {ρ : Rho} (N : EnvOk T x ws H σ ρ) (t : Stp ws H ws' H') : EnvOk T x ws' H' σ ρ :=
  ⟨N.len, fun i d e => let ⟨v, h1, h2⟩ := N.at_ i d e; ⟨v, h1, h2.stp t⟩, fun q e => let ⟨h1, c, h2⟩ := N.ex q e; ⟨h1, c, h2.stp t⟩⟩
theorem EnvOk.stq {T : Kt} {x : Option Sx} {ws ws' : Ws} {H H' : Hp} {σ : L2.St} {ρ : Rho} (N : EnvOk T x ws H σ ρ) (t : Stq ws H ws' H') : EnvOk T x ws' H' σ ρ :=
  ⟨N.len, fun i d e => let ⟨v, h1, h2⟩ := N.at_ i d e; ⟨v, h1, h2.stq t⟩, fun q e => let ⟨h1, c, g1, d, fs, v, g2, g3, g4, g5, g6⟩ := N.ex q e; ⟨h1, c, g1, d, fs, v, g2, t.fz _ _ g3, g4, g5.stq t, g6⟩⟩
theorem EnvOk.set {T : Kt} {x : Option Sx} {ws : Ws} {H : Hp} {σ : L2.St} {ρ : Rho} (N : EnvOk T x ws H σ ρ) {i : Nat} {d : D} {v : V} (r : Rep T ws (mask ws H) d v) (hx : nsl x i) : EnvOk T x ws H (σ.set i (some v)) (ρ.set i (some d)) := by
  refine ⟨by rw [List.length_set, List.length_set]; exact N.len, fun j e h => ?_, fun q e => ?_⟩
  · by_cases hj : i = j
    · subst hj
      have hi : i < ρ.length := by
        have := (List.getElem?_eq_some_iff.mp h).1
        rwa [List.length_set] at this
      rw [List.getElem?_set_self hi] at h
      cases h
      exact ⟨v, by rw [List.getElem?_set_self (by rw [N.len]; exact hi)], r⟩
    · rw [List.getElem?_set_ne hj] at h
      rw [List.getElem?_set_ne hj]
      exact N.at_ j e h
  · obtain ⟨h1, h2⟩ := N.ex q e
    have hne : q.i ≠ i := by
      unfold nsl at hx
      rw [e] at hx
      exact hx
    exact ⟨by rw [List.getElem?_set_ne (Ne.symm hne)]; exact h1, h2⟩
theorem EnvOk.clr {T : Kt} {x : Option Sx} {ws : Ws} {H : Hp} {σ : L2.St} {ρ : Rho} (N : EnvOk T x ws H σ ρ) {i : Nat} (hx : nsl x i) : EnvOk T x ws H (σ.set i none) (ρ.set i none) := by
  refine ⟨by rw [List.length_set, List.length_set]; exact N.len, fun j e h => ?_, fun q e => ?_⟩
  · by_cases hj : i = j
    · subst hj
      have hi : i < ρ.length := by
        have := (List.getElem?_eq_some_iff.mp h).1
        rwa [List.length_set] at this
      rw [List.getElem?_set_self hi] at h
      cases h
    · rw [List.getElem?_set_ne hj] at h
      rw [List.getElem?_set_ne hj]
      exact N.at_ j e h
  · obtain ⟨h1, h2⟩ := N.ex q e
    have hne : q.i ≠ i := by
      unfold nsl at hx
      rw [e] at hx
      exact hx
    exact ⟨by rw [List.getElem?_set_ne (Ne.symm hne)]; exact h1, h2⟩
def wipeD (ρ : Rho) : List Nat → Rho
  | [] => ρ
  | v :: vs => (wipeD ρ vs).set v none
theorem EnvOk.wipe {T : Kt} {x : Option Sx} {ws : Ws} {H : Hp} {σ : L2.St} {ρ : Rho} (N : EnvOk T x ws H σ ρ) : ∀ vs : List Nat, (∀ i ∈ vs, nsl x i) → EnvOk T x ws H (L2.wipe σ vs) (wipeD ρ vs)
  | [], _ => N
  | _ :: vs, hx => (EnvOk.wipe N vs fun i hi => hx i (List.mem_cons_of_mem _ hi)).clr (hx _ List.mem_cons_self)

/-! ### what is evaluated -/
inductive Res (α : Type) where
  | ok (x : α) (s : Sto) | ex (e : Exn) (s : Sto)
abbrev M (α : Type) := Rho → Sto → Option (Res α)
def bnd {α β : Type} (a : M α) (k : α → M β) : M β := fun ρ s => match a ρ s with
  | some (.ok x s1) => k x ρ s1
  | some (.ex e s1) => some (.ex e s1)
  | none => none
def got {α : Type} (f : Sto → Option α) : M α := fun _ s => match f s with
  | some x => some (.ok x s)
  | none => none
def ret {α : Type} (x : α) : M α := fun _ s => some (.ok x s)
theorem got_some {α : Type} {f : Sto → Option α} {ρ : Rho} {s : Sto} {r : Res α} (h : got f ρ s = some r) : ∃ x, f s = some x ∧ r = .ok x s := by
  unfold got at h
  split at h
  · rename_i y e
    cases h
    exact ⟨y, e, rfl⟩
  · cases h
theorem ret_some {α : Type} {x : α} {ρ : Rho} {s : Sto} {r : Res α} (h : ret x ρ s = some r) : r = .ok x s := by
  cases h
  rfl
/-- the wish about an error that comes out -/
def XOk {α : Type} (C : Cn) (ws : Ws) (H : Hp) (σ : L2.St) (r : Res α) : Prop := match r with
  | .ok _ _ => True
  | .ex e s' => ∀ cls dx ws' H', Stp ws H ws' H' → Sta C.T ws' H' s' → ExRep C.T ws' H' e cls dx → C.W cls dx σ H'
theorem XOk.stp {α : Type} {C : Cn} {ws ws1 : Ws} {H H1 : Hp} {σ : L2.St} {r : Res α} (h : XOk C ws H σ r) (t : Stp ws H ws1 H1) : XOk C ws1 H1 σ r := by
  cases r with
  | ok x s => exact True.intro
  | ex e s => exact fun cls dx ws' H' t' => h cls dx ws' H' (t.trans t')

def EvS (C : Cn) (te : TE) (f : M D) : Prop := ∀ (ws : Ws) (H : Hp) (s : Sto) (σ : L2.St) (ρ : Rho) (r : Res D) (Q : VK), Sta C.T ws H s → EnvOk C.T C.x ws H σ ρ → f ρ s = some r → XOk C ws H σ r →
  (∀ d s', r = .ok d s' → ∀ v ws' H', Stp ws H ws' H' → Sta C.T ws' H' s' → Rep C.T ws' (mask ws' H') d v → Q v H') → te σ H Q
def EvT (C : Cn) (tt : TT) (f : M Bool) : Prop := ∀ (ws : Ws) (H : Hp) (s : Sto) (σ : L2.St) (ρ : Rho) (r : Res Bool) (Q : Bool → Hp → Prop), Sta C.T ws H s → EnvOk C.T C.x ws H σ ρ → f ρ s = some r → XOk C ws H σ r →
  (∀ d s', r = .ok d s' → ∀ ws' H', Stp ws H ws' H' → Sta C.T ws' H' s' → Q d H') → tt σ H Q
def EvA (C : Cn) (ta : TA) (f : M (List D)) : Prop := ∀ (ws : Ws) (H : Hp) (s : Sto) (σ : L2.St) (ρ : Rho) (r : Res (List D)) (Q : List V → Hp → Prop), Sta C.T ws H s → EnvOk C.T C.x ws H σ ρ → f ρ s = some r → XOk C ws H σ r →
  (∀ d s', r = .ok d s' → ∀ v ws' H', Stp ws H ws' H' → Sta C.T ws' H' s' → Reps C.T ws' (mask ws' H') d v → Q v H') → ta σ H Q
section
variable {β : Type} {C : Cn} {ws : Ws} {H : Hp} {s : Sto} {σ : L2.St} {ρ : Rho} {r : Res β}
theorem EvS.b {te : TE} {f : M D} {k : D → M β} {Q : VK} (ea : EvS C te f) (S : Sta C.T ws H s) (N : EnvOk C.T C.x ws H σ ρ) (h : bnd f k ρ s = some r) (x : XOk C ws H σ r)
    (q : ∀ d s1, k d ρ s1 = some r → ∀ v ws1 H1, Stp ws H ws1 H1 → Sta C.T ws1 H1 s1 → Rep C.T ws1 (mask ws1 H1) d v → Q v H1) : te σ H Q := by
  unfold bnd at h
  split at h
  · rename_i d s1 e
    exact ea ws H s σ ρ _ Q S N e True.intro fun d' s' hd => by cases hd; exact q d s1 h
  · rename_i e s1 he
    cases h
    exact ea ws H s σ ρ _ Q S N he x fun d' s' hd => nomatch hd
  · cases h
theorem EvT.b {tt : TT} {f : M Bool} {k : Bool → M β} {Q : Bool → Hp → Prop} (ea : EvT C tt f) (S : Sta C.T ws H s) (N : EnvOk C.T C.x ws H σ ρ) (h : bnd f k ρ s = some r) (x : XOk C ws H σ r)
    (q : ∀ d s1, k d ρ s1 = some r → ∀ ws1 H1, Stp ws H ws1 H1 → Sta C.T ws1 H1 s1 → Q d H1) : tt σ H Q := by
  unfold bnd at h
  split at h
  · rename_i d s1 e
    exact ea ws H s σ ρ _ Q S N e True.intro fun d' s' hd => by cases hd; exact q d s1 h
  · rename_i e s1 he
    cases h
    exact ea ws H s σ ρ _ Q S N he x fun d' s' hd => nomatch hd
  · cases h
theorem EvA.b {ta : TA} {f : M (List D)} {k : List D → M β} {Q : List V → Hp → Prop} (ea : EvA C ta f) (S : Sta C.T ws H s) (N : EnvOk C.T C.x ws H σ ρ) (h : bnd f k ρ s = some r) (x : XOk C ws H σ r)
    (q : ∀ d s1, k d ρ s1 = some r → ∀ v ws1 H1, Stp ws H ws1 H1 → Sta C.T ws1 H1 s1 → Reps C.T ws1 (mask ws1 H1) d v → Q v H1) : ta σ H Q := by
  unfold bnd at h
  split at h
  · rename_i d s1 e
    exact ea ws H s σ ρ _ Q S N e True.intro fun d' s' hd => by cases hd; exact q d s1 h
  · rename_i e s1 he
    cases h
    exact ea ws H s σ ρ _ Q S N he x fun d' s' hd => nomatch hd
  · cases h
end
structure DE (X : Cx) (C : Cn) (e : Expr) (f : M D) : Prop where
  ex : ∃ te, PE X e te ∧ EvS C te f
structure DT (X : Cx) (C : Cn) (e : Expr) (f : M Bool) : Prop where
  ex : ∃ tt, PT X e tt ∧ EvT C tt f
structure DW (X : Cx) (C : Cn) (e : Expr) (f : M Bool) : Prop where
  ex : ∃ tt, PW X e tt ∧ EvT C tt f
structure DA (X : Cx) (C : Cn) (es : List Expr) (f : M (List D)) : Prop where
  ex : ∃ ta, PA X es ta ∧ EvA C ta f
theorem DW.t {X : Cx} {C : Cn} {e : Expr} {f : M Bool} (h : DW X C e f) : DT X C e f := let ⟨t, a, b⟩ := h.ex; ⟨t, a.pt, b⟩

section
variable {X : Cx} {C : Cn} {a b c e : Expr} {es : List Expr} {f g k : M D} {pos p : Pos}

/-! ### names, constants -/
def fVar (i : Nat) : M D := fun ρ s => match ρ[i]? with
  | some (some d) => some (.ok d s)
  | _ => none
def fC (d : D) : M D := fun _ s => some (.ok d s)
theorem de_var (i : Nat) {x : Str} (hN : X.N[i]? = some x := by rfl) (hv : Vis X.env.scope x := by first | exact Or.inl rfl | exact Or.inr (Or.inl rfl) | exact Or.inr (Or.inr rfl))
    (hd : (x == ("__debug__" : Str)) = false := by decide) (hcd : (x == ("__classdict__" : Str)) = false := by decide) : DE X C (.Name x pos) (fVar i) :=
  ⟨_, pe_var hN hv hd hcd, fun ws H s σ ρ r Q S N h x q => by
    unfold fVar at h
    split at h
    · rename_i d' e
      cases h
      obtain ⟨v, e1, r⟩ := N.at_ i _ e
      exact ⟨v, e1, q _ _ rfl v ws H (Stp.refl _ _) S r⟩
    · cases h⟩
theorem ev_c {v : V} {d : D} (h : ∀ ws H, Rep C.T ws H d v) : EvS C (tC v) (fC d) := fun ws H s σ ρ d' Q S N h' x q => by
  cases h'
  exact q _ _ rfl v ws H (Stp.refl _ _) S (h _ _)
theorem de_int {i : Int} {j} : DE X C (.Constant (.int i) j pos) (fC (.int i)) := ⟨_, pe_int, ev_c fun _ _ => rfl⟩
theorem de_bl {i : Bool} {j} : DE X C (.Constant (.bool i) j pos) (fC (.bl i)) := ⟨_, pe_bl, ev_c fun _ _ => rfl⟩
theorem de_non {j} : DE X C (.Constant .none j pos) (fC .non) := ⟨_, pe_non, ev_c fun _ _ => rfl⟩
theorem de_str {x : Str} {j} : DE X C (.Constant (.str x) j pos) (fC (.str x)) := ⟨_, pe_str, ev_c fun _ _ => rfl⟩
/-- a module's constant that is no object -/
theorem de_glob {x : Str} {v : V} {u : Value} {d : D} (hm : X.mg x = some u) (r : RelV v u) (h : ∀ ws H, Rep C.T ws H d v) (hg : Gl X x := by rfl) (hd : (x == ("__debug__" : Str)) = false := by decide) : DE X C (.Name x pos) (fC d) := ⟨_, pe_glob hg hm r hd, ev_c h⟩

/-! ### operators by values -/
/-- r on the values of x and y gives that of z -/
def OpS (T : Kt) (r : R2) (g : Sto → D → D → Option D) : Prop := ∀ (ws : Ws) (H : Hp) (s : Sto) (x y z : D) (v u : V) (Q : VK), Sta T ws H s → Rep T ws (mask ws H) x v → Rep T ws (mask ws H) y u → g s x y = some z →
  (∀ w ws' H', Stp ws H ws' H' → Sta T ws' H' s → Rep T ws' (mask ws' H') z w → Q w H') → r v u H Q
def fOp (g : Sto → D → D → Option D) (fa fb : M D) : M D := bnd fa fun x => bnd fb fun y => got fun s => g s x y
theorem ev_op {ta tb : TE} {fa fb : M D} {r : R2} {g : Sto → D → D → Option D} (ha : EvS C ta fa) (hb : EvS C tb fb) (ho : OpS C.T r g) : EvS C (tOp r ta tb) (fOp g fa fb) := fun ws H s σ ρ R Q S N h X q =>
  (ha.b) S N h X fun x s1 h v ws1 H1 t1 S1 r1 => (hb.b) S1 (N.stp t1) h (X.stp t1) fun y s2 h u ws2 H2 t2 S2 r2 => by
    obtain ⟨z, h3, rfl⟩ := got_some h
    exact ho ws2 H2 _ x y z v u Q S2 (r1.stp t2) r2 h3 fun w ws' H' t3 S3 r3 => q _ _ rfl w ws' H' ((t1.trans t2).trans t3) S3 r3
theorem de_bin {op : Operator} {r : R2} {fa fb : M D} {gg : Sto → D → D → Option D} (hr : OpR X (binaryOp op) r) (ho : OpS C.T r gg) (ha : DE X C a fa) (hb : DE X C b fb) : DE X C (.BinOp a op b pos) (fOp gg fa fb) :=
  let ⟨_, pa, ea⟩ := ha.ex
  let ⟨_, pb, eb⟩ := hb.ex
  ⟨_, pe_op hr pa pb, ev_op ea eb ho⟩
theorem de_cmp {op : CmpOp} {r : R2} {fa fb : M D} {gg : Sto → D → D → Option D} (hr : OpR X (compareOp op) r) (ho : OpS C.T r gg) (ha : DE X C a fa) (hb : DE X C b fb) (hm : behindInMarks op b = false) : DE X C (.Compare a [op] [b] pos) (fOp gg fa fb) :=
  let ⟨_, pa, ea⟩ := ha.ex
  let ⟨_, pb, eb⟩ := hb.ex
  ⟨_, pe_cmpR hr pa pb hm, ev_op ea eb ho⟩
theorem OpS.or {T : Kt} {r r' : R2} {g g' : Sto → D → D → Option D} (h : OpS T r g) (h' : OpS T r' g') : OpS T (fun x y H Q => r x y H Q ∨ r' x y H Q) (fun s x y => (g s x y).or (g' s x y)) := fun ws H s x y z v u Q S r1 r2 e q => by
  cases e1 : g s x y with
  | some z' =>
    simp only [e1, Option.some_or] at e
    cases e
    exact .inl (h ws H s x y _ v u Q S r1 r2 e1 q)
  | none =>
    simp only [e1, Option.none_or] at e
    exact .inr (h' ws H s x y z v u Q S r1 r2 e q)
end
end VM
set_option Elab.async false
set_option maxRecDepth 100000
set_option maxHeartbeats 4000000
set_option linter.all false
set_option autoImplicit false
namespace VM
open PySem L2
noncomputable section

theorem lim_ex : ∃ n : Nat, n = 100000 := ⟨100000, rfl⟩
/-- the most items of a list (a name that nothing opens) -/
noncomputable def LIM : Nat := Classical.choose lim_ex
theorem LIM_eq : LIM = 100000 := Classical.choose_spec lim_ex
theorem le_LIM {n : Nat} (h : n ≤ 100000) : n ≤ LIM := by rw [LIM_eq]; exact h
@[simp] theorem lit_LIM (n : Nat) (h : n ≤ 100000) : (no_index (OfNat.ofNat n) : Nat) ≤ LIM := le_LIM h
/-- bounds, as names that nothing opens -/
theorem small_ex : ∃ f : Int → Bool, ∀ j, f j = true ↔ -(2 ^ 62) ≤ j ∧ j < 2 ^ 62 := ⟨fun j => decide (-(2 ^ 62) ≤ j ∧ j < 2 ^ 62), fun j => decide_eq_true_iff⟩
noncomputable def smallI : Int → Bool := Classical.choose small_ex
theorem smallI_iff (j : Int) : smallI j = true ↔ -(2 ^ 62) ≤ j ∧ j < 2 ^ 62 := Classical.choose_spec small_ex j
theorem smallI_of {j : Int} (h1 : -1000000 ≤ j) (h2 : j ≤ 1000000) : smallI j = true := (smallI_iff j).mpr ⟨by omega, by omega⟩
@[simp] theorem smallI_lit (n : Nat) (h : n ≤ 1000000) : smallI (no_index (OfNat.ofNat n) : Int) = true := smallI_of (j := (n : Int)) (by omega) (by omega)
theorem smallI_nat {n : Nat} (h : n ≤ LIM) : smallI (n : Int) = true := smallI_of (by omega) (by rw [LIM_eq] at h; omega)
theorem mulOk_ex : ∃ f : Int → Int → Bool, ∀ i j, f i j = true ↔ (-(2 ^ 64) < i ∧ i < 2 ^ 64) ∨ (-(2 ^ 64) < j ∧ j < 2 ^ 64) := ⟨fun i j => decide ((-(2 ^ 64) < i ∧ i < 2 ^ 64) ∨ (-(2 ^ 64) < j ∧ j < 2 ^ 64)), fun i j => decide_eq_true_iff⟩
noncomputable def mulOk : Int → Int → Bool := Classical.choose mulOk_ex
theorem mulOk_iff (i j : Int) : mulOk i j = true ↔ (-(2 ^ 64) < i ∧ i < 2 ^ 64) ∨ (-(2 ^ 64) < j ∧ j < 2 ^ 64) := Classical.choose_spec mulOk_ex i j
@[simp] theorem mulOk_litr (i : Int) (n : Nat) (h : n ≤ 1000000000000) : mulOk i (no_index (OfNat.ofNat n) : Int) = true := (mulOk_iff i (n : Int)).mpr (.inr ⟨by omega, by omega⟩)
@[simp] theorem mulOk_litl (i : Int) (n : Nat) (h : n ≤ 1000000000000) : mulOk (no_index (OfNat.ofNat n) : Int) i = true := (mulOk_iff (n : Int) i).mpr (.inl ⟨by omega, by omega⟩)
theorem shOk_ex : ∃ f : Int → Int → Bool, ∀ i j, f i j = true ↔ 0 ≤ j ∧ j ≤ 1000000 ∧ i.natAbs < 2 ^ 64 := ⟨fun i j => decide (0 ≤ j ∧ j ≤ 1000000 ∧ i.natAbs < 2 ^ 64), fun i j => decide_eq_true_iff⟩
noncomputable def shOk : Int → Int → Bool := Classical.choose shOk_ex
theorem shOk_iff (i j : Int) : shOk i j = true ↔ 0 ≤ j ∧ j ≤ 1000000 ∧ i.natAbs < 2 ^ 64 := Classical.choose_spec shOk_ex i j
theorem shOk_of {i j : Int} (h0 : 0 ≤ i) (h1 : i ≤ 1000000000000) (h2 : 0 ≤ j) (h3 : j ≤ 1000000) : shOk i j = true := (shOk_iff i j).mpr ⟨h2, h3, by omega⟩
@[simp] theorem shOk_lit (n m : Nat) (h : n ≤ 1000000000000) (h2 : m ≤ 1000000) : shOk (no_index (OfNat.ofNat n) : Int) (no_index (OfNat.ofNat m) : Int) = true := shOk_of (i := (n : Int)) (j := (m : Int)) (by omega) (by omega) (by omega) (by omega)
theorem dvOk_ex : ∃ f : Int → Bool, ∀ j, f j = true ↔ 0 < j ∧ j < 1073741824 := ⟨fun j => decide (0 < j ∧ j < 1073741824), fun j => decide_eq_true_iff⟩
noncomputable def dvOk : Int → Bool := Classical.choose dvOk_ex
theorem dvOk_iff (j : Int) : dvOk j = true ↔ 0 < j ∧ j < 1073741824 := Classical.choose_spec dvOk_ex j
@[simp] theorem dvOk_lit (n : Nat) (h : 0 < n) (h2 : n ≤ 1000000000) : dvOk (no_index (OfNat.ofNat n) : Int) = true := (dvOk_iff (n : Int)).mpr ⟨by omega, by omega⟩
theorem lim_sz {n : Nat} (h : n ≤ LIM) : n ≤ sizeLine := Nat.le_trans h (by rw [LIM_eq]; decide)
theorem lim_lt {n : Nat} (h : n < LIM) : n < sizeLine := Nat.lt_of_lt_of_le h (by rw [LIM_eq]; decide)

/-! ### items -/
def itL (s : Sto) : D → Option (List D)
  | .lst ds => some ds
  | .lck ds => some ds
  | .own l => lstAt s l
  | _ => none
def itM (s : Sto) : D → Option (List D)
  | .lst ds => some ds
  | .own l => lstAt s l
  | _ => none
section
variable {T : Kt} {ws : Ws} {H : Hp} {s : Sto} {d : D} {v : V} {ds : List D}
theorem itM_ok (S : Sta T ws H s) (r : Rep T ws (mask ws H) d v) (h : itM s d = some ds) : ∃ a xs, v = .ref a ∧ H a = some (.lst xs) ∧ Reps T ws (mask ws H) ds xs := by
  cases d with
  | lst es =>
    cases h
    obtain ⟨a, xs, e, h1, h2⟩ := r
    exact ⟨a, xs, e, (mask_some h1).2, h2⟩
  | own l =>
    obtain ⟨a, h1, e⟩ := r
    obtain ⟨xs, h2, h3⟩ := S.lst h1 h
    exact ⟨a, xs, e, h2, h3⟩
  | _ => cases h
theorem itL_ok (S : Sta T ws H s) (r : Rep T ws (mask ws H) d v) (h : itL s d = some ds) : ∃ a xs, v = .ref a ∧ SqL T.K H a xs ∧ Reps T ws (mask ws H) ds xs := by
  cases d with
  | lst es =>
    cases h
    obtain ⟨a, xs, e, h1, h2⟩ := r
    exact ⟨a, xs, e, .of (mask_some h1).2, h2⟩
  | lck es =>
    cases h
    obtain ⟨a, xs, e, h1, h2⟩ := r
    exact ⟨a, xs, e, sqL_un h1, h2⟩
  | own l =>
    obtain ⟨a, h1, e⟩ := r
    obtain ⟨xs, h2, h3⟩ := S.lst h1 h
    exact ⟨a, xs, e, .of h2, h3⟩
  | _ => cases h
end

/-! ### arithmetic -/
abbrev G2 := Sto → D → D → Option D
def i2 (g : Int → Int → Option D) : G2 := fun _ x y => match x, y with
  | .int i, .int j => g i j
  | _, _ => none
theorem i2_some {g : Int → Int → Option D} {s : Sto} {x y z : D} (h : i2 g s x y = some z) : ∃ i j, x = .int i ∧ y = .int j ∧ g i j = some z := by
  unfold i2 at h
  split at h
  · exact ⟨_, _, rfl, rfl, h⟩
  · cases h
theorem ops_I0 {T : Kt} {g : Int → Int → V} {G : Int → Int → D} (h : ∀ i j ws H, Rep T ws H (G i j) (g i j)) : OpS T (rI0 g) (i2 fun i j => some (G i j)) := fun ws H s x y z v u Q S r1 r2 e q => by
  obtain ⟨i, j, rfl, rfl, e⟩ := i2_some e
  cases e
  cases r1
  cases r2
  exact ⟨i, j, rfl, rfl, q _ ws H (Stp.refl _ _) S (h _ _ _ _)⟩
theorem ops_I {T : Kt} {C : Int → Int → Prop} {g : Int → Int → V} {G : Int → Int → Option D} (h : ∀ i j z, G i j = some z → C i j ∧ ∀ ws H, Rep T ws H z (g i j)) : OpS T (rI C g) (i2 G) := fun ws H s x y z v u Q S r1 r2 e q => by
  obtain ⟨i, j, rfl, rfl, e⟩ := i2_some e
  cases r1
  cases r2
  obtain ⟨hc, hr⟩ := h i j z e
  exact ⟨i, j, rfl, rfl, hc, q _ ws H (Stp.refl _ _) S (hr _ _)⟩
def subD : G2 := i2 fun i j => some (.int (i - j))
def andD : G2 := i2 fun i j => some (.int (Builtin.bitAnd i j))
def orD : G2 := i2 fun i j => some (.int (Builtin.bitOr i j))
def xorD : G2 := i2 fun i j => some (.int (Builtin.bitXor i j))
def ltD : G2 := i2 fun i j => some (.bl (decide (i < j)))
def leD : G2 := i2 fun i j => some (.bl (decide (i ≤ j)))
def gtD : G2 := i2 fun i j => some (.bl (decide (j < i)))
def geD : G2 := i2 fun i j => some (.bl (decide (j ≤ i)))
def mulI (i j : Int) : Option D := if mulOk i j = true then some (.int (i * j)) else none
def fdivI (i j : Int) : Option D := if dvOk j = true then some (.int (i / j)) else none
def modI (i j : Int) : Option D := if 0 < j then some (.int (i % j)) else none
def shlI (i j : Int) : Option D := if shOk i j = true then some (.int (i * 2 ^ j.toNat)) else none
def powI (i j : Int) : Option D := if shOk i j = true then some (.int (i ^ j.toNat)) else none
def shrI (i j : Int) : Option D := if 0 ≤ j then some (.int (i / 2 ^ j.toNat)) else none
section
variable {T : Kt}
theorem ops_sub : OpS T (rI0 fun i j => .int (i - j)) subD := ops_I0 fun _ _ _ _ => rfl
theorem ops_mulI : OpS T (rI CMul fun i j => .int (i * j)) (i2 mulI) := ops_I fun i j z h => by
  unfold mulI at h
  split at h
  · cases h; exact ⟨(mulOk_iff _ _).mp (by assumption), fun _ _ => rfl⟩
  · cases h
theorem ops_fdiv : OpS T (rI CDiv fun i j => .int (i / j)) (i2 fdivI) := ops_I fun i j z h => by
  unfold fdivI at h
  split at h
  · cases h; exact ⟨(dvOk_iff _).mp (by assumption), fun _ _ => rfl⟩
  · cases h
theorem ops_mod : OpS T (rI (fun _ j => 0 < j) fun i j => .int (i % j)) (i2 modI) := ops_I fun i j z h => by
  unfold modI at h
  split at h
  · cases h; exact ⟨by assumption, fun _ _ => rfl⟩
  · cases h
theorem ops_shl : OpS T (rI CPow fun i j => .int (i * 2 ^ j.toNat)) (i2 shlI) := ops_I fun i j z h => by
  unfold shlI at h
  split at h
  · cases h; exact ⟨(shOk_iff _ _).mp (by assumption), fun _ _ => rfl⟩
  · cases h
theorem ops_pow : OpS T (rI CPow fun i j => .int (i ^ j.toNat)) (i2 powI) := ops_I fun i j z h => by
  unfold powI at h
  split at h
  · cases h; exact ⟨(shOk_iff _ _).mp (by assumption), fun _ _ => rfl⟩
  · cases h
theorem ops_shr : OpS T (rI (fun _ j => 0 ≤ j) fun i j => .int (i / 2 ^ j.toNat)) (i2 shrI) := ops_I fun i j z h => by
  unfold shrI at h
  split at h
  · cases h; exact ⟨by assumption, fun _ _ => rfl⟩
  · cases h
theorem ops_and : OpS T (rI0 fun i j => .int (Builtin.bitAnd i j)) andD := ops_I0 fun _ _ _ _ => rfl
theorem ops_or : OpS T (rI0 fun i j => .int (Builtin.bitOr i j)) orD := ops_I0 fun _ _ _ _ => rfl
theorem ops_xor : OpS T (rI0 fun i j => .int (Builtin.bitXor i j)) xorD := ops_I0 fun _ _ _ _ => rfl
theorem ops_lt : OpS T (rI0 fun i j => .bl (decide (i < j))) ltD := ops_I0 fun _ _ _ _ => rfl
theorem ops_le : OpS T (rI0 fun i j => .bl (decide (i ≤ j))) leD := ops_I0 fun _ _ _ _ => rfl
theorem ops_gt : OpS T (rI0 fun i j => .bl (decide (j < i))) gtD := ops_I0 fun _ _ _ _ => rfl
theorem ops_ge : OpS T (rI0 fun i j => .bl (decide (j ≤ i))) geD := ops_I0 fun _ _ _ _ => rfl
end

/-! ### a + b, a * b of any kind -/
def addD (s : Sto) (x y : D) : Option D := match x, y with
  | .int i, .int j => some (.int (i + j))
  | .str a, .str b => if a.length + b.length ≤ LIM then some (.str (a ++ b)) else none
  | .tup a, .tup b => if a.length + b.length ≤ LIM then some (.tup (a ++ b)) else none
  | .lst a, .lst b => if a.length + b.length ≤ LIM then some (.lst (a ++ b)) else none
  | _, _ => none
def rAdd4 (K : PySem.W.Frag) : R2 := fun x y H Q => (∃ i j, x = .int i ∧ y = .int j ∧ Q (.int (i + j)) H) ∨ ((∃ i j, x = .str i ∧ y = .str j ∧ i.length + j.length ≤ sizeLine ∧ Q (.str (i ++ j)) H) ∨ (rCatA K x y H Q ∨ rCat x y H Q))
theorem op_add4 {X : Cx} : OpR X (binaryOp .Add) (rAdd4 X.K) := op_add.or (op_add_str.or (op_catA.or op_cat))
theorem ops_add {T : Kt} : OpS T (rAdd4 T.K) addD := fun ws H s x y z v u Q S r1 r2 e q => by
  unfold addD at e
  split at e
  · cases e
    cases r1
    cases r2
    exact .inl ⟨_, _, rfl, rfl, q _ ws H (Stp.refl _ _) S rfl⟩
  · split at e
    · cases e
      cases r1
      cases r2
      exact .inr (.inl ⟨_, _, rfl, rfl, lim_sz (by assumption), q _ ws H (Stp.refl _ _) S rfl⟩)
    · cases e
  · rename_i a b
    split at e
    · rename_i hl
      cases e
      obtain ⟨p1, xs, rfl, h1, k1⟩ := r1
      obtain ⟨p2, ys, rfl, h2, k2⟩ := r2
      refine .inr (.inr (.inl ⟨p1, p2, xs, ys, rfl, rfl, sqT_un h1, sqT_un h2, lim_sz (by rw [← k1.length, ← k2.length]; exact hl), fun e1 => ?_, fun _ e2 => ?_, fun _ _ p hp => ?_⟩))
      · subst e1
        have : a = [] := List.length_eq_zero_iff.mp k1.length
        subst this
        exact q _ ws H (Stp.refl _ _) S ⟨p2, ys, rfl, h2, k2⟩
      · subst e2
        have : b = [] := List.length_eq_zero_iff.mp k2.length
        subst this
        exact q _ ws H (Stp.refl _ _) S ⟨p1, xs, rfl, h1, by rw [List.append_nil]; exact k1⟩
      · have t : Stp ws H ws (upd H p (.tup (xs ++ ys))) := S.stp_new hp
        exact q _ ws _ t (S.new hp) ⟨p, _, rfl, (S.at_new hp), (k1.append k2).stp t⟩
    · cases e
  · rename_i a b
    split at e
    · rename_i hl
      cases e
      obtain ⟨p1, xs, rfl, h1, k1⟩ := r1
      obtain ⟨p2, ys, rfl, h2, k2⟩ := r2
      refine .inr (.inr (.inr ⟨p1, p2, xs, ys, rfl, rfl, (mask_some h1).2, (mask_some h2).2, lim_sz (by rw [← k1.length, ← k2.length]; exact hl), fun p hp => ?_⟩))
      have t : Stp ws H ws (upd H p (.lst (xs ++ ys))) := S.stp_new hp
      exact q _ ws _ t (S.new hp) ⟨p, _, rfl, S.at_new hp, (k1.append k2).stp t⟩
    · cases e
  · cases e
/-- += of ints and texts -/
def addI (s : Sto) (x y : D) : Option D := match x, y with
  | .int i, .int j => some (.int (i + j))
  | .str a, .str b => if a.length + b.length ≤ LIM then some (.str (a ++ b)) else none
  | _, _ => none
theorem iop_addI {X : Cx} : OpR X (inplaceOp .Add) (fun x y H Q => (∃ i j, x = .int i ∧ y = .int j ∧ Q (.int (i + j)) H) ∨ (∃ i j, x = .str i ∧ y = .str j ∧ i.length + j.length ≤ sizeLine ∧ Q (.str (i ++ j)) H)) := iop_add.or iop_add_str
theorem ops_addI {T : Kt} : OpS T (fun x y H Q => (∃ i j, x = .int i ∧ y = .int j ∧ Q (.int (i + j)) H) ∨ (∃ i j, x = .str i ∧ y = .str j ∧ i.length + j.length ≤ sizeLine ∧ Q (.str (i ++ j)) H)) addI := fun ws H s x y z v u Q S r1 r2 e q => by
  unfold addI at e
  split at e
  · cases e
    cases r1
    cases r2
    exact .inl ⟨_, _, rfl, rfl, q _ ws H (Stp.refl _ _) S rfl⟩
  · split at e
    · cases e
      cases r1
      cases r2
      exact .inr ⟨_, _, rfl, rfl, lim_sz (by assumption), q _ ws H (Stp.refl _ _) S rfl⟩
    · cases e
  · cases e
def mulD (s : Sto) (x y : D) : Option D := match x, y with
  | .int i, .int j => mulI i j
  | .lst a, .int k => if smallI k = true ∧ a.length * k.toNat ≤ LIM then some (.lst (List.replicate k.toNat a).flatten) else none
  | _, _ => none
theorem op_mul2 {X : Cx} : OpR X (binaryOp .Mult) (fun x y H Q => rI CMul (fun i j => .int (i * j)) x y H Q ∨ rRep x y H Q) := op_mul.or op_rep
theorem ops_mul {T : Kt} : OpS T (fun x y H Q => rI CMul (fun i j => .int (i * j)) x y H Q ∨ rRep x y H Q) mulD := fun ws H s x y z v u Q S r1 r2 e q => by
  unfold mulD at e
  split at e
  · exact .inl (ops_mulI (T := T) ws H s _ _ z v u Q S r1 r2 e q)
  · rename_i a k
    split at e
    · rename_i hl
      cases e
      obtain ⟨p1, xs, rfl, h1, k1⟩ := r1
      cases r2
      have hk := (smallI_iff k).mp hl.1
      refine .inr ⟨p1, k, xs, rfl, rfl, (mask_some h1).2, by omega, by omega, lim_sz (by rw [← k1.length]; exact hl.2), fun p hp => ?_⟩
      have t : Stp ws H ws (upd H p (.lst (List.replicate k.toNat xs).flatten)) := S.stp_new hp
      exact q _ ws _ t (S.new hp) ⟨p, _, rfl, S.at_new hp, (k1.replicate _).stp t⟩
    · cases e
  · cases e

/-! ### is None -/
def isNone : D → Bool
  | .non => true
  | _ => false
theorem isNone_ok {T : Kt} {ws : Ws} {H : Hp} {d : D} {v : V} (r : Rep T ws H d v) : decide (v = .non) = isNone d := by
  cases d with
  | non => cases r; rfl
  | bl _ => cases r; rfl
  | int _ => cases r; rfl
  | str _ => cases r; rfl
  | lst _ => obtain ⟨a, xs, rfl, _⟩ := r; rfl
  | tup _ => obtain ⟨a, xs, rfl, _⟩ := r; rfl
  | own _ => obtain ⟨a, _, rfl⟩ := r; rfl
  | lck _ => obtain ⟨a, xs, rfl, _⟩ := r; rfl
  | ins _ _ _ => obtain ⟨a, dx, fs, rfl, _⟩ := r; rfl
  | dct _ _ _ => obtain ⟨a, rfl, _⟩ := r; rfl
  | set _ _ => obtain ⟨a, rfl, _⟩ := r; rfl
  | fn _ => cases r; rfl
  | lam _ _ _ _ _ => obtain ⟨rfl, _⟩ := r; rfl
def isN (s : Sto) (x y : D) : Option D := match y with
  | .non => some (.bl (isNone x))
  | _ => none
def isNN (s : Sto) (x y : D) : Option D := match y with
  | .non => some (.bl (!isNone x))
  | _ => none
theorem ops_isN {T : Kt} : OpS T (fun x y H Q => y = .non ∧ Q (.bl (decide (x = .non))) H) isN := fun ws H s x y z v u Q S r1 r2 e q => by
  unfold isN at e
  split at e
  · cases e
    cases r2
    refine ⟨rfl, ?_⟩
    rw [isNone_ok r1]
    exact q _ ws H (Stp.refl _ _) S rfl
  · cases e
theorem ops_isNN {T : Kt} : OpS T (fun x y H Q => y = .non ∧ Q (.bl (!decide (x = .non))) H) isNN := fun ws H s x y z v u Q S r1 r2 e q => by
  unfold isNN at e
  split at e
  · cases e
    cases r2
    refine ⟨rfl, ?_⟩
    rw [isNone_ok r1]
    exact q _ ws H (Stp.refl _ _) S rfl
  · cases e

/-! ### == -/
mutual
def toPy : D → Option PyData
  | .non => some .none
  | .bl b => some (.bool b)
  | .int i => some (.int i)
  | .str x => some (.str x)
  | .lst ds => match toPys ds with
    | some es => some (.list es)
    | none => none
  | .lck ds => match toPys ds with
    | some es => some (.list es)
    | none => none
  | .tup ds => match toPys ds with
    | some es => some (.tuple es)
    | none => none
  | _ => none
def toPys : List D → Option (List PyData)
  | [] => some []
  | d :: ds => match toPy d, toPys ds with
    | some e, some es => some (e :: es)
    | _, _ => none
end
mutual
theorem toPy_ok {T : Kt} {ws : Ws} {H : Hp} : ∀ (d : D) (v : V) (p : PyData), Rep T ws (mask ws H) d v → toPy d = some p → Dp T.K H v p
  | .non, _, _, r, e => by cases r; cases e; exact .non
  | .bl _, _, _, r, e => by cases r; cases e; exact .bl _
  | .int _, _, _, r, e => by cases r; cases e; exact .int _
  | .str _, _, _, r, e => by cases r; cases e; exact .str _
  | .lst ds, _, p, r, e => by
    obtain ⟨a, xs, rfl, h, k⟩ := r
    unfold toPy at e
    split at e
    · rename_i es h2
      cases e
      exact .lst (.of (mask_some h).2) (toPys_ok ds xs _ k h2)
    · cases e
  | .lck ds, _, p, r, e => by
    obtain ⟨a, xs, rfl, h, k⟩ := r
    unfold toPy at e
    split at e
    · rename_i es h2
      cases e
      exact .lst (sqL_un h) (toPys_ok ds xs _ k h2)
    · cases e
  | .tup ds, _, p, r, e => by
    obtain ⟨a, xs, rfl, h, k⟩ := r
    unfold toPy at e
    split at e
    · rename_i es h2
      cases e
      exact .tup (sqT_un h) (toPys_ok ds xs _ k h2)
    · cases e
  | .own _, _, _, _, e => by cases e
  | .ins _ _ _, _, _, _, e => by cases e
  | .dct _ _ _, _, _, _, e => by cases e
  | .set _ _, _, _, _, e => by cases e
  | .fn _, _, _, _, e => by cases e
  | .lam _ _ _ _ _, _, _, _, e => by cases e
theorem toPys_ok {T : Kt} {ws : Ws} {H : Hp} : ∀ (ds : List D) (vs : List V) (ps : List PyData), Reps T ws (mask ws H) ds vs → toPys ds = some ps → DpAll T.K H vs ps
  | [], _, _, r, e => by cases r; cases e; exact .nil
  | d :: ds, _, ps, r, e => by
    obtain ⟨v, w, rfl, r1, r2⟩ := r
    unfold toPys at e
    split at e
    · rename_i e1 e2 h1 h2
      cases e
      exact .cons (toPy_ok d v _ r1 h1) (toPys_ok ds w _ r2 h2)
    · cases e
end
/-- what an owned list holds, as a list -/
def dr (s : Sto) : D → D
  | .own l => match lstAt s l with
    | some ds => .lst ds
    | none => .own l
  | d => d
theorem dr_ok {T : Kt} {ws : Ws} {H : Hp} {s : Sto} {d : D} {v : V} {p : PyData} (S : Sta T ws H s) (r : Rep T ws (mask ws H) d v) (e : toPy (dr s d) = some p) : Dp T.K H v p := by
  cases d with
  | own l =>
    unfold dr at e
    split at e
    · rename_i d l' e1
      cases e1
      obtain ⟨a, h1, rfl⟩ := r
      split at e
      · rename_i ds h2
        obtain ⟨xs, h3, h4⟩ := S.lst h1 h2
        unfold toPy at e
        split at e
        · rename_i es h5
          cases e
          exact .lst (.of h3) (toPys_ok ds xs _ h4 h5)
        · cases e
      · cases e
    · rename_i h
      exact absurd rfl (h _)
  | _ => exact toPy_ok _ v p r e
def scD : D → D → Option Bool
  | .int i, .int j => some (decide (i = j))
  | .str i, .str j => some (decide (i = j))
  | .bl i, .bl j => some (decide (i = j))
  | .non, .non => some true
  | .int _, .str _ => some false
  | .str _, .int _ => some false
  | .non, .int _ => some false
  | .int _, .non => some false
  | .non, .str _ => some false
  | .str _, .non => some false
  | .non, .bl _ => some false
  | .bl _, .non => some false
  | .bl _, .str _ => some false
  | .str _, .bl _ => some false
  | _, _ => none
def eqB (s : Sto) (x y : D) : Option Bool := match scD x y with
  | some b => some b
  | none => match toPy (dr s x), toPy (dr s y) with
    | some d, some e => if SeqAt.shaped d = true ∧ SeqAt.shaped e = true then some (PyData.eqv d e) else none
    | _, _ => none
def eqD (s : Sto) (x y : D) : Option D := (eqB s x y).map .bl
def neD (s : Sto) (x y : D) : Option D := (eqB s x y).map fun b => .bl (!b)
theorem scD_ok {T : Kt} {ws : Ws} {H : Hp} {x y : D} {v u : V} {b : Bool} (r1 : Rep T ws H x v) (r2 : Rep T ws H y u) (e : scD x y = some b) : scal v u = true ∧ decide (v = u) = b := by
  unfold scD at e
  split at e <;> first
    | cases e; done
    | (cases r1; cases r2; cases e; first
        | exact ⟨rfl, rfl⟩
        | (refine ⟨rfl, ?_⟩; refine decide_eq_decide.mpr ⟨fun h => ?_, fun h => ?_⟩; (injection h); (rw [h])))
theorem ops_eq {T : Kt} : OpS T (fun x y H Q => rEq x y H Q ∨ rEqD T.K x y H Q) eqD := fun ws H s x y z v u Q S r1 r2 e q => by
  obtain ⟨b, e', rfl⟩ := Option.map_eq_some_iff.mp e
  clear e
  have e := e'
  unfold eqB at e
  split at e
  · rename_i b' h
    cases e
    obtain ⟨h1, h2⟩ := scD_ok r1 r2 h
    refine .inl ⟨h1, ?_⟩
    rw [h2]
    exact q _ ws H (Stp.refl _ _) S rfl
  · split at e
    · rename_i d1 d2 h1 h2
      split at e
      · rename_i hs
        cases e
        exact .inr ⟨d1, d2, dr_ok S r1 h1, dr_ok S r2 h2, hs.1, hs.2, q _ ws H (Stp.refl _ _) S rfl⟩
      · cases e
    · cases e
theorem ops_ne {T : Kt} : OpS T (fun x y H Q => rNe x y H Q ∨ rNeD T.K x y H Q) neD := fun ws H s x y z v u Q S r1 r2 e q => by
  obtain ⟨b, e', rfl⟩ := Option.map_eq_some_iff.mp e
  clear e
  have e := e'
  unfold eqB at e
  split at e
  · rename_i b' h
    cases e
    obtain ⟨h1, h2⟩ := scD_ok r1 r2 h
    refine .inl ⟨h1, ?_⟩
    rw [h2]
    exact q _ ws H (Stp.refl _ _) S rfl
  · split at e
    · rename_i d1 d2 h1 h2
      split at e
      · rename_i hs
        cases e
        exact .inr ⟨d1, d2, dr_ok S r1 h1, dr_ok S r2 h2, hs.1, hs.2, q _ ws H (Stp.refl _ _) S rfl⟩
      · cases e
    · cases e
/-- a place for calls -/
def Rm (X : Cx) : Prop := X.A.units + 64 < cLine
theorem op_eqU {X : Cx} (hu : Rm X) : OpR X (compareOp .Eq) (fun x y H Q => rEq x y H Q ∨ rEqD X.K x y H Q) := op_eq.or (op_eqD hu)
theorem op_neU {X : Cx} (hu : Rm X) : OpR X (compareOp .NotEq) (fun x y H Q => rNe x y H Q ∨ rNeD X.K x y H Q) := op_ne.or (op_neD hu)

/-! ### xs[i] -/
def ixD (s : Sto) (x y : D) : Option D := match y with
  | .int i => match x with
    | .tup ds => atI ds i
    | .str z => if z.length ≤ LIM then (atI z.cps.toList i).map fun c => .str ⟨#[c]⟩ else none
    | _ => (itL s x).bind fun ds => atI ds i
  | _ => none
theorem atI_reps {T : Kt} {ws : Ws} {H : Hp} {ds : List D} {vs : List V} {i : Int} {d : D} (r : Reps T ws H ds vs) (h : atI ds i = some d) : ∃ v, atI vs i = some v ∧ Rep T ws H d v := by
  unfold atI at h ⊢
  rw [r.length] at h
  cases e : ixN vs.length i with
  | none => rw [e] at h; cases h
  | some j => rw [e] at h; exact r.get h
theorem ops_ix {T : Kt} : OpS T (rIx T.K) ixD := fun ws H s x y z v u Q S r1 r2 e q => by
  unfold ixD at e
  split at e
  · rename_i i
    cases r2
    split at e
    · rename_i ds
      obtain ⟨a, xs, rfl, h1, k1⟩ := r1
      obtain ⟨w, e1, rw'⟩ := atI_reps k1 e
      exact .inr (.inl ⟨a, xs, i, w, rfl, rfl, sqT_un h1, e1, q _ ws H (Stp.refl _ _) S rw'⟩)
    · split at e
      · rename_i hl
        obtain ⟨c, e1, rfl⟩ := Option.map_eq_some_iff.mp e
        cases r1
        exact .inr (.inr ⟨_, i, c, rfl, rfl, lim_sz hl, e1, q _ ws H (Stp.refl _ _) S rfl⟩)
      · cases e
    · cases h : itL s x with
      | none => rw [h] at e; cases e
      | some ds =>
        rw [h] at e
        obtain ⟨a, xs, rfl, h1, k1⟩ := itL_ok S r1 h
        obtain ⟨w, e1, rw'⟩ := atI_reps k1 e
        exact .inl ⟨a, xs, i, w, rfl, rfl, h1, e1, q _ ws H (Stp.refl _ _) S rw'⟩
  · cases e
end
end VM
set_option Elab.async false
set_option maxRecDepth 100000
set_option maxHeartbeats 4000000
set_option linter.all false
set_option autoImplicit false
namespace VM
open PySem L2
noncomputable section

/-! ### truth -/
def truD (s : Sto) : D → Option Bool
  | .non => some false
  | .bl b => some b
  | .int i => some (i != 0)
  | .str y => if y.length ≤ LIM then some ((y.length : Int) != 0) else none
  | .lst ds => some (!ds.isEmpty)
  | .lck ds => some (!ds.isEmpty)
  | .tup ds => some (!ds.isEmpty)
  | .own l => (lstAt s l).map fun ds => !ds.isEmpty
  | _ => none
theorem reps_empty {T : Kt} {ws : Ws} {H : Hp} {ds : List D} {xs : List V} (r : Reps T ws H ds xs) : ds.isEmpty = xs.isEmpty := by
  have := r.length
  cases ds with
  | nil => cases xs with
    | nil => rfl
    | cons _ _ => cases this
  | cons _ _ => cases xs with
    | nil => cases this
    | cons _ _ => rfl
theorem truD_ok {T : Kt} {ws : Ws} {H : Hp} {s : Sto} {d : D} {v : V} {b : Bool} (S : Sta T ws H s) (r : Rep T ws (mask ws H) d v) (h : truD s d = some b) : TruV T.K v H b := by
  cases d with
  | non => cases r; cases h; rfl
  | bl x => cases r; cases h; rfl
  | int i => cases r; cases h; rfl
  | str y =>
    cases r
    have h : (if y.length ≤ LIM then some ((y.length : Int) != 0) else none) = some b := h
    split at h
    · rename_i hl
      cases h
      exact ⟨lim_sz hl, rfl⟩
    · cases h
  | lst ds =>
    cases h
    obtain ⟨a, xs, rfl, h1, h2⟩ := r
    exact .inl ⟨xs, .of (mask_some h1).2, by rw [reps_empty h2]⟩
  | lck ds =>
    cases h
    obtain ⟨a, xs, rfl, h1, h2⟩ := r
    exact .inl ⟨xs, sqL_un h1, by rw [reps_empty h2]⟩
  | tup ds =>
    cases h
    obtain ⟨a, xs, rfl, h1, h2⟩ := r
    exact .inr (.inl ⟨xs, sqT_un h1, by rw [reps_empty h2]⟩)
  | own l =>
    obtain ⟨a, h1, rfl⟩ := r
    obtain ⟨ds, h2, rfl⟩ := Option.map_eq_some_iff.mp h
    obtain ⟨xs, h3, h4⟩ := S.lst h1 h2
    exact .inl ⟨xs, .of h3, by rw [reps_empty h4]⟩
  | _ => cases h
def fTru (f : M D) : M Bool := bnd f fun x => got fun s => truD s x
def fBl (f : M D) : M Bool := bnd f fun x => got fun _ => match x with
  | .bl b => some b
  | _ => none

def EvO (C : Cn) (ta : TO) (f : M (Option Int)) : Prop := ∀ (ws : Ws) (H : Hp) (s : Sto) (σ : L2.St) (ρ : Rho) (r : Res (Option Int)) (Q : Option Int → Hp → Prop), Sta C.T ws H s → EnvOk C.T C.x ws H σ ρ → f ρ s = some r → XOk C ws H σ r →
  (∀ d s', r = .ok d s' → ∀ ws' H', Stp ws H ws' H' → Sta C.T ws' H' s' → Q d H') → ta σ H Q
theorem EvO.b {β : Type} {C : Cn} {ws : Ws} {H : Hp} {s : Sto} {σ : L2.St} {ρ : Rho} {r : Res β} {ta : TO} {f : M (Option Int)} {k : Option Int → M β} {Q : Option Int → Hp → Prop} (ea : EvO C ta f) (S : Sta C.T ws H s) (N : EnvOk C.T C.x ws H σ ρ) (h : bnd f k ρ s = some r) (x : XOk C ws H σ r)
    (q : ∀ d s1, k d ρ s1 = some r → ∀ ws1 H1, Stp ws H ws1 H1 → Sta C.T ws1 H1 s1 → Q d H1) : ta σ H Q := by
  unfold bnd at h
  split at h
  · rename_i d s1 e
    exact ea ws H s σ ρ _ Q S N e True.intro fun d' s' hd => by cases hd; exact q d s1 h
  · rename_i e s1 he
    cases h
    exact ea ws H s σ ρ _ Q S N he x fun d' s' hd => nomatch hd
  · cases h
section
variable {X : Cx} {C : Cn} {a b c e : Expr} {es : List Expr} {f g k : M D} {t u : M Bool} {pos p : Pos} {rest : List Expr}
theorem dt_val (h : DE X C e f) (he : ∀ whole, isTrue e X.env whole = (do let v ← whole; standAt e.pos; holding [v] (truthy v)) := by intro _; rfl) (hK : X.K = C.T.K := by rfl) : DT X C e (fTru f) :=
  let ⟨_, pa, ea⟩ := h.ex
  ⟨_, pt_truth pa he, fun ws H s σ ρ R Q S N h xx q => (ea.b) S N h xx fun x s1 h v ws1 H1 t1 S1 r1 => by
    obtain ⟨z, h2, rfl⟩ := got_some h
    exact ⟨z, hK ▸ truD_ok S1 r1 h2, q _ _ rfl ws1 H1 t1 S1⟩⟩
theorem ev_test {te : TE} {f : M D} {C : Cn} (ea : EvS C te f) : EvT C (tTest te) (fBl f) := fun ws H s σ ρ R Q S N h xx q => (ea.b) S N h xx fun x s1 h v ws1 H1 t1 S1 r1 => by
  obtain ⟨z, h2, rfl⟩ := got_some h
  split at h2
  · cases h2
    cases r1
    exact ⟨z, rfl, q _ _ rfl ws1 H1 t1 S1⟩
  · cases h2
theorem dt_cmp {op : CmpOp} {r : R2} {fa fb : M D} {gg : G2} (hr : OpR X (compareOp op) r) (ho : OpS C.T r gg) (ha : DE X C a fa) (hb : DE X C b fb) (hm : behindInMarks op b = false) : DT X C (.Compare a [op] [b] pos) (fBl (fOp gg fa fb)) :=
  let ⟨_, pa, ea⟩ := ha.ex
  let ⟨_, pb, eb⟩ := hb.ex
  ⟨_, pt_cmpR hr pa pb hm, ev_test (ev_op ea eb ho)⟩
/-- a op1 b op2 c -/
def fChain (g g' : G2) (fa fb fc : M D) : M D := bnd fa fun x => bnd fb fun y => bnd (got fun s => g s x y) fun z => match z with
  | .bl true => bnd fc fun w => got fun s => g' s y w
  | .bl false => ret (.bl false)
  | _ => got fun _ => none
theorem bnd_got {α β : Type} {f : Sto → Option α} {k : α → M β} {ρ : Rho} {s : Sto} {r : Res β} (h : bnd (got f) k ρ s = some r) : ∃ x, f s = some x ∧ k x ρ s = some r := by
  unfold bnd got at h
  cases e : f s with
  | none => rw [e] at h; cases h
  | some x => rw [e] at h; exact ⟨x, rfl, h⟩
theorem ev_chain {r r' : R2} {ta tb tc : TE} {fa fb fc : M D} {gg gg' : G2} (ho : OpS C.T r gg) (ho' : OpS C.T r' gg') (ha : EvS C ta fa) (hb : EvS C tb fb) (hc : EvS C tc fc) : EvS C (tChain r r' ta tb tc) (fChain gg gg' fa fb fc) := fun ws H s σ ρ R Q S N h xx q =>
  (ha.b) S N h xx fun x s1 h v ws1 H1 t1 S1 r1 => (hb.b) S1 (N.stp t1) h (xx.stp t1) fun y s2 h u ws2 H2 t2 S2 r2 => by
  obtain ⟨z, h3, hz⟩ := bnd_got h
  refine ho ws2 H2 _ x y z v u _ S2 (r1.stp t2) r2 h3 fun w ws3 H3 t3 S3 r3 => ?_
  have t0 := (t1.trans t2).trans t3
  split at hz
  · cases r3
    refine ⟨true, rfl, ?_⟩
    rw [if_pos rfl]
    refine (hc.b) S3 (N.stp t0) hz (xx.stp t0) fun w2 s4 h v4 ws4 H4 t4 S4 r4 => ?_
    obtain ⟨d, h5, rfl⟩ := got_some h
    exact ho' ws4 H4 _ y w2 d u v4 Q S4 ((r2.stp t3).stp t4) r4 h5 fun v5 ws5 H5 t5 S5 r5 => q _ _ rfl v5 ws5 H5 ((t0.trans t4).trans t5) S5 r5
  · cases ret_some hz
    cases r3
    refine ⟨false, rfl, ?_⟩
    rw [if_neg Bool.false_ne_true]
    exact q _ _ rfl _ ws3 H3 t0 S3 rfl
  · obtain ⟨_, z, _⟩ := got_some hz
    cases z
theorem de_chain {op op' : CmpOp} {r r' : R2} {fa fb fc : M D} {gg gg' : G2} (hr : OpR X (compareOp op) r) (ho : OpS C.T r gg) (hr' : OpR X (compareOp op') r') (ho' : OpS C.T r' gg') (ha : DE X C a fa) (hb : DE X C b fb) (hc : DE X C c fc)
    (hm : lastMarks [op, op'] [b, c] = false := by with_unfolding_all rfl) : DE X C (.Compare a [op, op'] [b, c] pos) (fChain gg gg' fa fb fc) :=
  let ⟨_, pa, ea⟩ := ha.ex
  let ⟨_, pb, eb⟩ := hb.ex
  let ⟨_, pc, ec⟩ := hc.ex
  ⟨_, pe_chain hr hr' pa pb pc hm, ev_chain ho ho' ea eb ec⟩
theorem dt_chain {op op' : CmpOp} {r r' : R2} {fa fb fc : M D} {gg gg' : G2} (hr : OpR X (compareOp op) r) (ho : OpS C.T r gg) (hr' : OpR X (compareOp op') r') (ho' : OpS C.T r' gg') (ha : DE X C a fa) (hb : DE X C b fb) (hc : DE X C c fc)
    (hm : lastMarks [op, op'] [b, c] = false := by with_unfolding_all rfl) : DT X C (.Compare a [op, op'] [b, c] pos) (fBl (fChain gg gg' fa fb fc)) :=
  let ⟨_, pa, ea⟩ := ha.ex
  let ⟨_, pb, eb⟩ := hb.ex
  let ⟨_, pc, ec⟩ := hc.ex
  ⟨_, pt_chain hr hr' pa pb pc hm, ev_test (ev_chain ho ho' ea eb ec)⟩

/-! ### and, or, not as tests -/
def fAndT (t u : M Bool) : M Bool := bnd t fun x => if x = true then u else ret false
def fOrT (t u : M Bool) : M Bool := bnd t fun x => if x = true then ret true else u
def fNotT (t : M Bool) : M Bool := bnd t fun x => ret (!x)
theorem dw_and1 (h : DT X C a t) : DW X C (.BoolOp .And [a] pos) t := let ⟨_, pa, ea⟩ := h.ex; ⟨_, pw_and1 pa, ea⟩
theorem dw_or1 (h : DT X C a t) : DW X C (.BoolOp .Or [a] pos) t := let ⟨_, pa, ea⟩ := h.ex; ⟨_, pw_or1 pa, ea⟩
theorem dw_and (ha : DT X C a t) (hb : DW X C (.BoolOp .And (b :: rest) pos) u) : DW X C (.BoolOp .And (a :: b :: rest) pos) (fAndT t u) :=
  let ⟨_, pa, ea⟩ := ha.ex
  let ⟨_, pb, eb⟩ := hb.ex
  ⟨_, pw_and pa pb, fun ws H s σ ρ R Q S N h xx q => (ea.b) S N h xx fun x s1 h ws1 H1 t1 S1 => by
    split at h
    · rename_i hx
      rw [if_pos hx]
      exact eb ws1 H1 s1 σ ρ R Q S1 (N.stp t1) h (xx.stp t1) fun d s' e ws2 H2 t2 S2 => q d s' e ws2 H2 (t1.trans t2) S2
    · rename_i hx
      rw [if_neg hx]
      cases ret_some h
      exact q _ _ rfl ws1 H1 t1 S1⟩
theorem dw_or (ha : DT X C a t) (hb : DW X C (.BoolOp .Or (b :: rest) pos) u) : DW X C (.BoolOp .Or (a :: b :: rest) pos) (fOrT t u) :=
  let ⟨_, pa, ea⟩ := ha.ex
  let ⟨_, pb, eb⟩ := hb.ex
  ⟨_, pw_or pa pb, fun ws H s σ ρ R Q S N h xx q => (ea.b) S N h xx fun x s1 h ws1 H1 t1 S1 => by
    split at h
    · rename_i hx
      rw [if_pos hx]
      cases ret_some h
      exact q _ _ rfl ws1 H1 t1 S1
    · rename_i hx
      rw [if_neg hx]
      exact eb ws1 H1 s1 σ ρ R Q S1 (N.stp t1) h (xx.stp t1) fun d s' e ws2 H2 t2 S2 => q d s' e ws2 H2 (t1.trans t2) S2⟩
theorem dt_not (ha : DT X C a t) : DT X C (.UnaryOp .Not a pos) (fNotT t) :=
  let ⟨_, pa, ea⟩ := ha.ex
  ⟨_, pt_not pa, fun ws H s σ ρ R Q S N h xx q => (ea.b) S N h xx fun x s1 h ws1 H1 t1 S1 => by
    cases ret_some h
    exact q _ _ rfl ws1 H1 t1 S1⟩

/-! ### and, or, not as values -/
def fAnd (f g : M D) : M D := bnd f fun x => bnd (got fun s => truD s x) fun b => if b = true then g else ret x
def fOr (f g : M D) : M D := bnd f fun x => bnd (got fun s => truD s x) fun b => if b = true then ret x else g
def fNot (f : M D) : M D := bnd f fun x => got fun s => (truD s x).map fun b => .bl (!b)
theorem de_one {op} (h : DE X C a f) : DE X C (.BoolOp op [a] pos) f := let ⟨_, pa, ea⟩ := h.ex; ⟨_, pe_one pa, ea⟩
theorem de_and (ha : DE X C a f) (hb : DE X C (.BoolOp .And (b :: rest) pos) g) (hK : X.K = C.T.K := by rfl) : DE X C (.BoolOp .And (a :: b :: rest) pos) (fAnd f g) :=
  let ⟨_, pa, ea⟩ := ha.ex
  let ⟨_, pb, eb⟩ := hb.ex
  ⟨_, pe_andT pa pb, fun ws H s σ ρ R Q S N h xx q => (ea.b) S N h xx fun x s1 h v ws1 H1 t1 S1 r1 => by
    obtain ⟨y, h2, hz⟩ := bnd_got h
    refine ⟨y, hK ▸ truD_ok S1 r1 h2, ?_⟩
    split at hz
    · rename_i hx
      rw [if_pos hx]
      exact eb ws1 H1 _ σ ρ R Q S1 (N.stp t1) hz (xx.stp t1) fun d s' e w ws2 H2 t2 S2 r2 => q d s' e w ws2 H2 (t1.trans t2) S2 r2
    · rename_i hx
      rw [if_neg hx]
      cases ret_some hz
      exact q _ _ rfl v ws1 H1 t1 S1 r1⟩
theorem de_or (ha : DE X C a f) (hb : DE X C (.BoolOp .Or (b :: rest) pos) g) (hK : X.K = C.T.K := by rfl) : DE X C (.BoolOp .Or (a :: b :: rest) pos) (fOr f g) :=
  let ⟨_, pa, ea⟩ := ha.ex
  let ⟨_, pb, eb⟩ := hb.ex
  ⟨_, pe_orT pa pb, fun ws H s σ ρ R Q S N h xx q => (ea.b) S N h xx fun x s1 h v ws1 H1 t1 S1 r1 => by
    obtain ⟨y, h2, hz⟩ := bnd_got h
    refine ⟨y, hK ▸ truD_ok S1 r1 h2, ?_⟩
    split at hz
    · rename_i hx
      rw [if_pos hx]
      cases ret_some hz
      exact q _ _ rfl v ws1 H1 t1 S1 r1
    · rename_i hx
      rw [if_neg hx]
      exact eb ws1 H1 _ σ ρ R Q S1 (N.stp t1) hz (xx.stp t1) fun d s' e w ws2 H2 t2 S2 r2 => q d s' e w ws2 H2 (t1.trans t2) S2 r2⟩
theorem de_not (ha : DE X C a f) (hK : X.K = C.T.K := by rfl) : DE X C (.UnaryOp .Not a pos) (fNot f) :=
  let ⟨_, pa, ea⟩ := ha.ex
  ⟨_, pe_notT pa, fun ws H s σ ρ R Q S N h xx q => (ea.b) S N h xx fun x s1 h v ws1 H1 t1 S1 r1 => by
    obtain ⟨z, h2, rfl⟩ := got_some h
    obtain ⟨y, h3, rfl⟩ := Option.map_eq_some_iff.mp h2
    exact ⟨y, hK ▸ truD_ok S1 r1 h3, q _ _ rfl _ ws1 H1 t1 S1 rfl⟩⟩
def fIf (t : M Bool) (f g : M D) : M D := bnd t fun b => if b = true then f else g
theorem de_if (hc : DT X C c t) (ha : DE X C a f) (hb : DE X C b g) : DE X C (.IfExp c a b pos) (fIf t f g) :=
  let ⟨_, pc, ec⟩ := hc.ex
  let ⟨_, pa, ea⟩ := ha.ex
  let ⟨_, pb, eb⟩ := hb.ex
  ⟨_, pe_ifExp pc pa pb, fun ws H s σ ρ R Q S N h xx q => (ec.b) S N h xx fun x s1 h ws1 H1 t1 S1 => by
    split at h
    · rename_i hx
      rw [if_pos hx]
      exact ea ws1 H1 s1 σ ρ R Q S1 (N.stp t1) h (xx.stp t1) fun d s' e w ws2 H2 t2 S2 r2 => q d s' e w ws2 H2 (t1.trans t2) S2 r2
    · rename_i hx
      rw [if_neg hx]
      exact eb ws1 H1 s1 σ ρ R Q S1 (N.stp t1) h (xx.stp t1) fun d s' e w ws2 H2 t2 S2 r2 => q d s' e w ws2 H2 (t1.trans t2) S2 r2⟩
/-- -a -/
def negD : D → Option D
  | .int i => some (.int (-i))
  | _ => none
def fNeg (f : M D) : M D := bnd f fun x => got fun _ => negD x
theorem de_neg (ha : DE X C a f) : DE X C (.UnaryOp .USub a pos) (fNeg f) :=
  let ⟨_, pa, ea⟩ := ha.ex
  ⟨_, pe_un un_neg pa, fun ws H s σ ρ R Q S N h xx q => (ea.b) S N h xx fun x s1 h v ws1 H1 t1 S1 r1 => by
    obtain ⟨z, h2, rfl⟩ := got_some h
    unfold negD at h2
    split at h2
    · cases h2
      cases r1
      exact ⟨_, rfl, q _ _ rfl _ ws1 H1 t1 S1 rfl⟩
    · cases h2⟩

/-! ### arguments, displays -/
def fNil : M (List D) := ret []
def fCons (f : M D) (r : M (List D)) : M (List D) := bnd f fun x => bnd r fun xs => ret (x :: xs)
theorem da_nil : DA X C [] fNil := ⟨_, pa_nil, fun ws H s σ ρ R Q S N h xx q => by
  cases ret_some h
  exact q _ _ rfl _ ws H (Stp.refl _ _) S rfl⟩
theorem da_cons {r : M (List D)} (ha : DE X C e f) (hr : DA X C es r) (hs : starEach (e :: es) X.env = (false, eval e X.env) :: starEach es X.env := by rfl) : DA X C (e :: es) (fCons f r) :=
  let ⟨_, pa, ea⟩ := ha.ex
  let ⟨_, pr, er⟩ := hr.ex
  ⟨_, pa_cons pa pr hs, fun ws H s σ ρ R Q S N h xx q => (ea.b) S N h xx fun x s1 h v ws1 H1 t1 S1 r1 => (er.b) S1 (N.stp t1) h (xx.stp t1) fun xs s2 h vs ws2 H2 t2 S2 r2 => by
    cases ret_some h
    exact q _ _ rfl _ ws2 H2 (t1.trans t2) S2 ⟨v, vs, rfl, r1.stp t2, r2⟩⟩
def fTup (r : M (List D)) : M D := bnd r fun xs => got fun _ => if xs.length ≤ LIM then some (.tup xs) else none
def fLst (r : M (List D)) : M D := bnd r fun xs => got fun _ => if xs.length ≤ LIM then some (.lst xs) else none
theorem de_tup {r : M (List D)} {x1} (hr : DA X C es r) : DE X C (.Tuple es x1 pos) (fTup r) :=
  let ⟨_, pr, er⟩ := hr.ex
  ⟨_, pe_tup pr, fun ws H s σ ρ R Q S N h xx q => (er.b) S N h xx fun xs s1 h vs ws1 H1 t1 S1 r1 => by
    obtain ⟨z, h2, rfl⟩ := got_some h
    split at h2
    · rename_i hl
      cases h2
      refine ⟨lim_sz (by rw [← r1.length]; exact hl), fun p hp => ?_⟩
      have t2 : Stp ws1 H1 ws1 (upd H1 p (.tup vs)) := S1.stp_new hp
      exact q _ _ rfl _ ws1 _ (t1.trans t2) (S1.new hp) ⟨p, vs, rfl, (S1.at_new hp), r1.stp t2⟩
    · cases h2⟩
theorem de_lst {r : M (List D)} (hr : DA X C es r) : DE X C (.List es pos) (fLst r) :=
  let ⟨_, pr, er⟩ := hr.ex
  ⟨_, pe_lst pr, fun ws H s σ ρ R Q S N h xx q => (er.b) S N h xx fun xs s1 h vs ws1 H1 t1 S1 r1 => by
    obtain ⟨z, h2, rfl⟩ := got_some h
    split at h2
    · rename_i hl
      cases h2
      refine ⟨lim_sz (by rw [← r1.length]; exact hl), fun p hp => ?_⟩
      have t2 : Stp ws1 H1 ws1 (upd H1 p (.lst vs)) := S1.stp_new hp
      exact q _ _ rfl _ ws1 _ (t1.trans t2) (S1.new hp) ⟨p, vs, rfl, S1.at_new hp, r1.stp t2⟩
    · cases h2⟩
/-- a list that is owned from now on -/
def fOwn (r : M (List D)) : M D := bnd r fun xs => fun _ s => if xs.length ≤ LIM then some (.ok (.own s.length) (s ++ [.lst xs])) else none
theorem rep_last {T : Kt} {ws : Ws} {H : Hp} {s : Sto} {p : Addr} {M : Hp} (S : Sta T ws H s) : Rep T (ws.add p) M (.own s.length) (.ref p) := by
  refine ⟨p, ?_, rfl⟩
  rw [List.getElem?_append_right (by rw [S.len]; exact Nat.le_refl _), S.len, Nat.sub_self]
  rfl
theorem de_own {r : M (List D)} (hr : DA X C es r) : DE X C (.List es pos) (fOwn r) :=
  let ⟨_, pr, er⟩ := hr.ex
  ⟨_, pe_lst pr, fun ws H s σ ρ R Q S N h xx q => (er.b) S N h xx fun xs s1 h vs ws1 H1 t1 S1 r1 => by
    split at h
    · rename_i hl
      cases h
      refine ⟨lim_sz (by rw [← r1.length]; exact hl), fun p hp => ?_⟩
      have t2 : Stp ws1 H1 (ws1.add p) (upd H1 p (.lst vs)) := S1.stp_own hp
      exact q _ _ rfl _ (ws1.add p) _ (t1.trans t2) (S1.newOwn (so := .lst xs) hp r1) (rep_last S1)
    · cases h⟩

/-! ### xs[i], xs[a:b] -/
theorem de_ix {fa fb : M D} (ha : DE X C a fa) (hb : DE X C b fb) (hs : PlainIx b := by intro _ _; rfl) (hK : X.K = C.T.K := by rfl) : DE X C (.Subscript a b pos) (fOp ixD fa fb) :=
  let ⟨_, pa, ea⟩ := ha.ex
  let ⟨_, pb, eb⟩ := hb.ex
  ⟨_, pe_ix ix_seq pa pb hs, ev_op ea eb (hK ▸ ops_ix)⟩
def cutD (ds : List D) (lo hi : Option Int) : List D := (ds.drop (HT.sIx ds.length 0 lo)).take (HT.sIx ds.length ds.length hi - HT.sIx ds.length 0 lo)
theorem reps_cut {T : Kt} {ws : Ws} {H : Hp} {ds : List D} {xs : List V} (r : Reps T ws H ds xs) (lo hi : Option Int) : Reps T ws H (cutD ds lo hi) (cutV xs lo hi) := by
  unfold cutD cutV
  rw [r.length]
  exact (r.drop _).take _
def slD (s : Sto) (x : D) (lo hi : Option Int) : Option D := match x with
  | .tup ds => some (.tup (cutD ds lo hi))
  | .str z => if z.length ≤ LIM then some (.str (cutS z lo hi)) else none
  | _ => (itL s x).map fun ds => .lst (cutD ds lo hi)
structure DO' (X : Cx) (C : Cn) (e : Option Expr) (f : M (Option Int)) : Prop where
  ex : ∃ ta, PO X e ta ∧ EvO C ta f
def fPart (f : M D) : M (Option Int) := bnd f fun x => got fun _ => match x with
  | .int i => some (some i)
  | _ => none
theorem do_none : DO' X C none (ret none) := ⟨_, po_none, fun ws H s σ ρ R Q S N h xx q => by
  cases ret_some h
  exact q _ _ rfl ws H (Stp.refl _ _) S⟩
theorem do_some (h : DE X C e f) : DO' X C (some e) (fPart f) :=
  let ⟨_, pa, ea⟩ := h.ex
  ⟨_, po_some pa, fun ws H s σ ρ R Q S N h xx q => (ea.b) S N h xx fun x s1 h v ws1 H1 t1 S1 r1 => by
    obtain ⟨z, h2, rfl⟩ := got_some h
    split at h2
    · cases h2
      cases r1
      exact ⟨_, rfl, q _ _ rfl ws1 H1 t1 S1⟩
    · cases h2⟩
def fSl (f : M D) (lo hi : M (Option Int)) : M D := bnd f fun x => bnd lo fun l => bnd hi fun h => got fun s => slD s x l h
theorem de_slice {lo hi : Option Expr} {fl fh : M (Option Int)} {p2 : Pos} (ha : DE X C e f) (hl : DO' X C lo fl) (hh : DO' X C hi fh) (hK : X.K = C.T.K := by rfl) : DE X C (.Subscript e (.Slice lo hi none p2) pos) (fSl f fl fh) :=
  let ⟨_, pa, ea⟩ := ha.ex
  let ⟨_, pl, el⟩ := hl.ex
  let ⟨_, ph, eh⟩ := hh.ex
  ⟨_, pe_slice (sl_tupA.or (sl_str.or sl_list)) pa pl ph, fun ws H s σ ρ R Q S N h xx q =>
    (ea.b) S N h xx fun x s1 ha v ws1 H1 t1 S1 r1 => (el.b) S1 (N.stp t1) ha (xx.stp t1) fun lo' s2 hb ws2 H2 t2 S2 => (eh.b) S2 ((N.stp t1).stp t2) hb ((xx.stp t1).stp t2) fun hi' s3 hc ws3 H3 t3 S3 => by
    obtain ⟨z, h4, rfl⟩ := got_some hc
    have r3 := (r1.stp t2).stp t3
    have t0 := (t1.trans t2).trans t3
    unfold slD at h4
    split at h4
    · rename_i ds
      cases h4
      obtain ⟨p, xs, rfl, k1, k2⟩ := r3
      refine .inl ⟨p, xs, rfl, hK ▸ sqT_un k1, fun hw => ?_, fun _ p' hp => ?_⟩
      · refine q _ _ rfl _ ws3 H3 t0 S3 ⟨p, xs, rfl, k1, ?_⟩
        have : cutD ds lo' hi' = ds := by
          unfold cutD
          rw [k2.length, hw.1, hw.2, List.drop_zero, Nat.sub_zero, ← k2.length, List.take_length]
        rw [this]
        exact k2
      · have t4 : Stp ws3 H3 ws3 (upd H3 p' (.tup (cutV xs lo' hi'))) := S3.stp_new hp
        exact q _ _ rfl _ ws3 _ (t0.trans t4) (S3.new hp) ⟨p', _, rfl, (S3.at_new hp), (reps_cut k2 _ _).stp t4⟩
    · split at h4
      · rename_i hz
        cases h4
        cases r3
        exact .inr (.inl ⟨_, rfl, lim_sz hz, q _ _ rfl _ ws3 H3 t0 S3 rfl⟩)
      · cases h4
    · obtain ⟨ds, h7, rfl⟩ := Option.map_eq_some_iff.mp h4
      obtain ⟨p, xs, rfl, k1, k2⟩ := itL_ok S3 r3 h7
      refine .inr (.inr ⟨p, xs, rfl, hK ▸ k1, fun p' hp => ?_⟩)
      have t4 : Stp ws3 H3 ws3 (upd H3 p' (.lst (cutV xs lo' hi'))) := S3.stp_new hp
      exact q _ _ rfl _ ws3 _ (t0.trans t4) (S3.new hp) ⟨p', _, rfl, S3.at_new hp, (reps_cut k2 _ _).stp t4⟩⟩

/-! ### built-ins -/
abbrev GC := Sto → List D → Option D
def CallS (T : Kt) (r : List V → Hp → VK → Prop) (g : GC) : Prop := ∀ (ws : Ws) (H : Hp) (s : Sto) (xs : List D) (z : D) (vs : List V) (Q : VK), Sta T ws H s → Reps T ws (mask ws H) xs vs → g s xs = some z →
  (∀ w ws' H', Stp ws H ws' H' → Sta T ws' H' s → Rep T ws' (mask ws' H') z w → Q w H') → r vs H Q
def fCB (g : GC) (fa : M (List D)) : M D := bnd fa fun xs => got fun s => g s xs
theorem ev_cb {r : List V → Hp → VK → Prop} {gg : GC} {ta : TA} {fa : M (List D)} (ho : CallS C.T r gg) (ea : EvA C ta fa) : EvS C (tCB r ta) (fCB gg fa) := fun ws H s σ ρ R Q S N h xx q => (ea.b) S N h xx fun xs s1 h vs ws1 H1 t1 S1 r1 => by
  obtain ⟨z, h2, rfl⟩ := got_some h
  exact ho ws1 H1 _ xs z vs Q S1 r1 h2 fun w ws2 H2 t2 S2 r2 => q _ _ rfl w ws2 H2 (t1.trans t2) S2 r2
theorem de_callB {x : Str} {id : String} {r : List V → Hp → VK → Prop} {gg : GC} {fa : M (List D)} (hc : CallR X (.builtin id) r) (ho : CallS C.T r gg) (hm : X.mg x = none) (hv : bootBuiltins x = some (.builtin id)) (ha : DA X C (e :: es) fa) (hg : Gl X x := by rfl)
    (hn : x ≠ "__name__" := by decide) (hdb : (x == ("__debug__" : Str)) = false := by decide)
    (he : starEach (e :: es) X.env = (false, eval e X.env) :: starEach es X.env := by rfl) (hpl : (backTo pos (starEach es X.env)).any (·.1) = false := by rfl) : DE X C (.Call (.Name x p) (e :: es) [] pos) (fCB gg fa) :=
  let ⟨_, pa, ea⟩ := ha.ex
  ⟨_, pe_callB hc hg hm hv pa hn hdb he hpl, ev_cb ho ea⟩
theorem de_callTy {x : Str} {T : String} {r : List V → Hp → VK → Prop} {gg : GC} {fa : M (List D)} (hc : CallR X (.type T) r) (ho : CallS C.T r gg) (hm : X.mg x = none) (hv : bootBuiltins x = some (.type T)) (ha : DA X C (e :: es) fa) (hg : Gl X x := by rfl)
    (hn : x ≠ "__name__" := by decide) (hdb : (x == ("__debug__" : Str)) = false := by decide)
    (he : starEach (e :: es) X.env = (false, eval e X.env) :: starEach es X.env := by rfl) (hpl : (backTo pos (starEach es X.env)).any (·.1) = false := by rfl) : DE X C (.Call (.Name x p) (e :: es) [] pos) (fCB gg fa) :=
  let ⟨_, pa, ea⟩ := ha.ex
  ⟨_, pe_callTy hc hg hm hv pa hn hdb he hpl, ev_cb ho ea⟩
end
theorem reps_one {T : Kt} {ws : Ws} {H : Hp} {x : D} {vs : List V} (h : Reps T ws H [x] vs) : ∃ v, vs = [v] ∧ Rep T ws H x v := by
  obtain ⟨v, r, rfl, h1, rfl⟩ := h
  exact ⟨v, rfl, h1⟩
/-- one argument -/
def c1 (g : Sto → D → Option D) : GC := fun s xs => match xs with
  | [x] => g s x
  | _ => none
theorem c1_some {g : Sto → D → Option D} {s : Sto} {xs : List D} {z : D} (h : c1 g s xs = some z) : ∃ x, xs = [x] ∧ g s x = some z := by
  unfold c1 at h
  split at h
  · exact ⟨_, rfl, h⟩
  · cases h
section
variable {X : Cx} {T : Kt}
def lenD (s : Sto) : D → Option D
  | .str z => if z.length ≤ LIM then some (.int z.length) else none
  | .tup ds => some (.int ds.length)
  | x => (itL s x).map fun ds => .int ds.length
theorem cs_len : CallS T (fun xs H Q => ∃ x n, xs = [x] ∧ LenV T.K x H n ∧ Q (.int n) H) (c1 lenD) := fun ws H s xs z vs Q S r e q => by
  obtain ⟨x, rfl, e1⟩ := c1_some e
  obtain ⟨v, rfl, r1⟩ := reps_one r
  replace e := e1
  replace r := r1
  unfold lenD at e
  split at e
  · split at e
    · rename_i hl
      cases e
      cases r
      exact ⟨_, _, rfl, ⟨lim_sz hl, rfl⟩, q _ ws H (Stp.refl _ _) S rfl⟩
    · cases e
  · cases e
    obtain ⟨a, ys, rfl, h1, h2⟩ := r
    refine ⟨_, _, rfl, .inr ⟨ys, sqT_un h1, rfl⟩, ?_⟩
    rw [← h2.length]
    exact q _ ws H (Stp.refl _ _) S rfl
  · obtain ⟨ds, h, rfl⟩ := Option.map_eq_some_iff.mp e
    obtain ⟨a, ys, rfl, h1, h2⟩ := itL_ok S r h
    refine ⟨_, _, rfl, .inl ⟨ys, h1, rfl⟩, ?_⟩
    rw [← h2.length]
    exact q _ ws H (Stp.refl _ _) S rfl
def tupleD (s : Sto) : D → Option D
  | .tup ds => some (.tup ds)
  | x => (itL s x).map .tup
theorem cs_tuple : CallS T (fun xs H Q => ∃ p ys, xs = [.ref p] ∧ ((SqL T.K H p ys ∧ ∀ l, H l = none → Q (.ref l) (upd H l (.tup ys))) ∨ (SqT T.K H p ys ∧ Q (.ref p) H))) (c1 tupleD) := fun ws H s xs z vs Q S r e q => by
  obtain ⟨x, rfl, e1⟩ := c1_some e
  obtain ⟨v, rfl, r1⟩ := reps_one r
  replace e := e1
  replace r := r1
  unfold tupleD at e
  split at e
  · cases e
    obtain ⟨a, ys, rfl, h1, h2⟩ := r
    exact ⟨a, ys, rfl, .inr ⟨sqT_un h1, q _ ws H (Stp.refl _ _) S ⟨a, ys, rfl, h1, h2⟩⟩⟩
  · obtain ⟨ds, h, rfl⟩ := Option.map_eq_some_iff.mp e
    obtain ⟨a, ys, rfl, h1, h2⟩ := itL_ok S r h
    refine ⟨a, ys, rfl, .inl ⟨h1, fun l hl => ?_⟩⟩
    have t : Stp ws H ws (upd H l (.tup ys)) := S.stp_new hl
    exact q _ ws _ t (S.new hl) ⟨l, ys, rfl, (S.at_new hl), h2.stp t⟩
def listD (s : Sto) : D → Option D
  | .tup ds => some (.lst ds)
  | x => (itL s x).map .lst
theorem cs_list : CallS T (fun xs H Q => ∃ p ys, xs = [.ref p] ∧ (SqL T.K H p ys ∨ SqT T.K H p ys) ∧ ∀ l, H l = none → Q (.ref l) (upd H l (.lst ys))) (c1 listD) := fun ws H s xs z vs Q S r e q => by
  obtain ⟨x, rfl, e1⟩ := c1_some e
  obtain ⟨v, rfl, r1⟩ := reps_one r
  replace e := e1
  replace r := r1
  unfold listD at e
  split at e
  · cases e
    obtain ⟨a, ys, rfl, h1, h2⟩ := r
    refine ⟨a, ys, rfl, .inr (sqT_un h1), fun l hl => ?_⟩
    have t : Stp ws H ws (upd H l (.lst ys)) := S.stp_new hl
    exact q _ ws _ t (S.new hl) ⟨l, ys, rfl, S.at_new hl, h2.stp t⟩
  · obtain ⟨ds, h, rfl⟩ := Option.map_eq_some_iff.mp e
    obtain ⟨a, ys, rfl, h1, h2⟩ := itL_ok S r h
    refine ⟨a, ys, rfl, .inl h1, fun l hl => ?_⟩
    have t : Stp ws H ws (upd H l (.lst ys)) := S.stp_new hl
    exact q _ ws _ t (S.new hl) ⟨l, ys, rfl, S.at_new hl, h2.stp t⟩
def intsD : List D → Option (List Int)
  | [] => some []
  | .int i :: ds => (intsD ds).map (i :: ·)
  | _ => none
theorem intsD_ok {ws : Ws} {H : Hp} : ∀ {ds : List D} {vs : List V} {ns : List Int}, Reps T ws H ds vs → intsD ds = some ns → vs = ns.map V.int
  | [], _, _, r, e => by cases r; cases e; rfl
  | d :: ds, _, ns, ⟨v, w, hv, r1, r2⟩, e => by
    unfold intsD at e
    split at e
    · rename_i h; cases h
    · rename_i i ds' h
      cases h
      obtain ⟨ms, h1, rfl⟩ := Option.map_eq_some_iff.mp e
      cases r1
      rw [hv, intsD_ok r2 h1]
      rfl
    · cases e
def blsD : List D → Option (List Bool)
  | [] => some []
  | .bl i :: ds => (blsD ds).map (i :: ·)
  | _ => none
theorem blsD_ok {ws : Ws} {H : Hp} : ∀ {ds : List D} {vs : List V} {ns : List Bool}, Reps T ws H ds vs → blsD ds = some ns → vs = ns.map V.bl
  | [], _, _, r, e => by cases r; cases e; rfl
  | d :: ds, _, ns, ⟨v, w, hv, r1, r2⟩, e => by
    unfold blsD at e
    split at e
    · rename_i h; cases h
    · rename_i i ds' h
      cases h
      obtain ⟨ms, h1, rfl⟩ := Option.map_eq_some_iff.mp e
      cases r1
      rw [hv, blsD_ok r2 h1]
      rfl
    · cases e
def sumD (s : Sto) (x : D) : Option D := ((itL s x).bind intsD).map fun ns => .int ns.sum
theorem cs_sum : CallS T (rSum T.K) (c1 sumD) := fun ws H s xs z vs Q S r e q => by
  obtain ⟨x, rfl, e1⟩ := c1_some e
  obtain ⟨v, rfl, r1⟩ := reps_one r
  replace e := e1
  replace r := r1
  obtain ⟨ns, h, rfl⟩ := Option.map_eq_some_iff.mp e
  obtain ⟨ds, h3, h4⟩ := Option.bind_eq_some_iff.mp h
  obtain ⟨a, ys, rfl, h1, h2⟩ := itL_ok S r h3
  have := intsD_ok h2 h4
  subst this
  exact ⟨a, ns, rfl, h1, q _ ws H (Stp.refl _ _) S rfl⟩
def allD (s : Sto) (x : D) : Option D := ((itL s x).bind blsD).map fun ns => .bl (ns.all id)
def anyD (s : Sto) (x : D) : Option D := ((itL s x).bind blsD).map fun ns => .bl (ns.any id)
theorem cs_all : CallS T (rAll T.K) (c1 allD) := fun ws H s xs z vs Q S r e q => by
  obtain ⟨x, rfl, e1⟩ := c1_some e
  obtain ⟨v, rfl, r1⟩ := reps_one r
  replace e := e1
  replace r := r1
  obtain ⟨ns, h, rfl⟩ := Option.map_eq_some_iff.mp e
  obtain ⟨ds, h3, h4⟩ := Option.bind_eq_some_iff.mp h
  obtain ⟨a, ys, rfl, h1, h2⟩ := itL_ok S r h3
  have := blsD_ok h2 h4
  subst this
  exact ⟨a, ns, rfl, h1, q _ ws H (Stp.refl _ _) S rfl⟩
theorem cs_any : CallS T (rAny T.K) (c1 anyD) := fun ws H s xs z vs Q S r e q => by
  obtain ⟨x, rfl, e1⟩ := c1_some e
  obtain ⟨v, rfl, r1⟩ := reps_one r
  replace e := e1
  replace r := r1
  obtain ⟨ns, h, rfl⟩ := Option.map_eq_some_iff.mp e
  obtain ⟨ds, h3, h4⟩ := Option.bind_eq_some_iff.mp h
  obtain ⟨a, ys, rfl, h1, h2⟩ := itL_ok S r h3
  have := blsD_ok h2 h4
  subst this
  exact ⟨a, ns, rfl, h1, q _ ws H (Stp.refl _ _) S rfl⟩
def absD (_ : Sto) : D → Option D
  | .int i => some (.int (if i < 0 then -i else i))
  | _ => none
theorem cs_abs : CallS T (fun xs H Q => ∃ i, xs = [.int i] ∧ Q (.int (if i < 0 then -i else i)) H) (c1 absD) := fun ws H s xs z vs Q S r e q => by
  obtain ⟨x, rfl, e1⟩ := c1_some e
  obtain ⟨v, rfl, r1⟩ := reps_one r
  replace e := e1
  replace r := r1
  unfold absD at e
  split at e
  · cases e
    cases r
    exact ⟨_, rfl, q _ ws H (Stp.refl _ _) S rfl⟩
  · cases e
def intD (_ : Sto) : D → Option D
  | .int i => some (.int i)
  | .bl b => some (.int (if b then 1 else 0))
  | _ => none
theorem cs_int : CallS T (fun xs H Q => (∃ i, xs = [.int i] ∧ Q (.int i) H) ∨ ∃ k, xs = [.bl k] ∧ Q (.int (if k then 1 else 0)) H) (c1 intD) := fun ws H s xs z vs Q S r e q => by
  obtain ⟨x, rfl, e1⟩ := c1_some e
  obtain ⟨v, rfl, r1⟩ := reps_one r
  replace e := e1
  replace r := r1
  unfold intD at e
  split at e
  · cases e
    cases r
    exact .inl ⟨_, rfl, q _ ws H (Stp.refl _ _) S rfl⟩
  · cases e
    cases r
    exact .inr ⟨_, rfl, q _ ws H (Stp.refl _ _) S rfl⟩
  · cases e
end
end
end VM
set_option Elab.async false
set_option maxRecDepth 100000
set_option maxHeartbeats 4000000
set_option linter.all false
set_option autoImplicit false
namespace VM
open PySem L2
noncomputable section

/-! ### equal data -/
mutual
def sameD : D → D → Bool
  | .non, .non => true
  | .bl a, .bl b => a == b
  | .int a, .int b => a == b
  | .str a, .str b => decide (a = b)
  | .lst a, .lst b => sameDs a b
  | .tup a, .tup b => sameDs a b
  | .lck a, .lck b => sameDs a b
  | .own a, .own b => a == b
  | .ins c ns a, .ins c' ns' b => c == c' && ns == ns' && sameDs a b
  | .dct t ks a, .dct t' ks' b => t == t' && sameDs ks ks' && sameDs a b
  | .set t a, .set t' b => t == t' && sameDs a b
  | .fn a, .fn b => a == b
  | .lam a c q us ds, .lam a' c' q' us' ds' => a == a' && c == c' && decide (q = q') && decide (us = us') && sameDs ds ds'
  | _, _ => false
def sameDs : List D → List D → Bool
  | [], [] => true
  | a :: as, b :: bs => sameD a b && sameDs as bs
  | _, _ => false
end
mutual
theorem sameD_ok : ∀ (a b : D), sameD a b = true → a = b
  | .non, b, h => by cases b <;> first | rfl | cases h
  | .bl _, b, h => by cases b <;> first | (cases h; done) | (simp [sameD] at h; rw [h])
  | .int _, b, h => by cases b <;> first | (cases h; done) | (simp [sameD] at h; rw [h])
  | .str _, b, h => by cases b <;> first | (cases h; done) | (simp [sameD] at h; rw [h])
  | .own _, b, h => by cases b <;> first | (cases h; done) | (simp [sameD] at h; rw [h])
  | .fn _, b, h => by cases b <;> first | (cases h; done) | (simp [sameD] at h; rw [h])
  | .lam a c q us ds, b, h => by
    cases b <;> first
      | (cases h; done)
      | (simp [sameD] at h; rw [h.1.1.1.1, h.1.1.1.2, h.1.1.2, h.1.2, sameDs_ok ds _ h.2])
  | .lst as, b, h => by cases b <;> first | (cases h; done) | (rw [sameDs_ok as _ (by simpa [sameD] using h)])
  | .tup as, b, h => by cases b <;> first | (cases h; done) | (rw [sameDs_ok as _ (by simpa [sameD] using h)])
  | .lck as, b, h => by cases b <;> first | (cases h; done) | (rw [sameDs_ok as _ (by simpa [sameD] using h)])
  | .set t as, b, h => by
    cases b <;> first
      | (cases h; done)
      | (simp [sameD] at h; rw [h.1, sameDs_ok as _ h.2])
  | .ins c ns as, b, h => by
    cases b <;> first
      | (cases h; done)
      | (simp [sameD] at h; rw [h.1.1, h.1.2, sameDs_ok as _ h.2])
  | .dct t ks as, b, h => by
    cases b <;> first
      | (cases h; done)
      | (simp [sameD] at h; rw [h.1.1, sameDs_ok ks _ h.1.2, sameDs_ok as _ h.2])
theorem sameDs_ok : ∀ (a b : List D), sameDs a b = true → a = b
  | [], b, h => by cases b <;> first | rfl | cases h
  | a :: as, b, h => by
    cases b with
    | nil => cases h
    | cons b bs =>
      simp [sameDs] at h
      rw [sameD_ok a b h.1, sameDs_ok as bs h.2]
end
mutual
theorem sameD_refl : ∀ a : D, sameD a a = true
  | .non => rfl
  | .bl _ => by simp [sameD]
  | .int _ => by simp [sameD]
  | .str _ => by simp [sameD]
  | .own _ => by simp [sameD]
  | .fn _ => by simp [sameD]
  | .lam _ _ _ _ ds => by simp only [sameD, beq_self_eq_true, decide_true, sameDs_refl ds, Bool.and_self]
  | .lst as => by simp only [sameD]; exact sameDs_refl as
  | .tup as => by simp only [sameD]; exact sameDs_refl as
  | .lck as => by simp only [sameD]; exact sameDs_refl as
  | .set t as => by simp only [sameD, beq_self_eq_true, sameDs_refl as, Bool.and_self]
  | .ins c ns as => by simp only [sameD, beq_self_eq_true, sameDs_refl as, Bool.and_self]
  | .dct t ks as => by simp only [sameD, beq_self_eq_true, sameDs_refl ks, sameDs_refl as, Bool.and_self]
theorem sameDs_refl : ∀ a : List D, sameDs a a = true
  | [] => rfl
  | a :: as => by simp only [sameDs, sameD_refl a, sameDs_refl as, Bool.and_self]
end

/-! ### isinstance -/
/-- the built-in type of a datum -/
def tyD (s : Sto) : D → Option String
  | .non => some "NoneType" | .bl _ => some "bool" | .int _ => some "int" | .str _ => some "str" | .lst _ => some "list" | .lck _ => some "list" | .tup _ => some "tuple" | .dct _ _ _ => some "dict"
  | .own l => match s[l]? with
    | some (.lst _) => some "list"
    | some (.dct _ _ _) => some "dict"
    | _ => none
  | _ => none
/-- the class number of an instance -/
def clD (s : Sto) : D → Option Nat
  | .ins c _ _ => some c
  | .own l => match s[l]? with
    | some (.ins c _ _) => some c
    | _ => none
  | _ => none
def tyN : List String := ["NoneType", "bool", "int", "str", "list", "tuple", "dict", "set"]
def isN' : TN → String → Bool
  | .int, x => x == "int" || x == "bool"
  | t, x => t.nm == x
def isT (t : TN) (s : Sto) (d : D) : Option Bool := match tyD s d with
  | some x => some (isN' t x)
  | none => (clD s d).map fun _ => false
theorem tyD_in {s : Sto} {d : D} {x : String} (h : tyD s d = some x) : x ∈ tyN := by
  unfold tyD at h
  split at h <;> first
    | (cases h; decide)
    | (split at h <;> first | (cases h; decide) | cases h)
    | cases h
theorem kit_isT {K : PySem.W.Frag} (t : TN) {x : String} (h : x ∈ tyN) : PySem.W.kitOne K (.type x) (.type t.nm) = some (isN' t x) := by
  refine L2.kit_ty ?_
  have key : ∀ x ∈ tyN, L2.kitB x t.nm = some (isN' t x) := by
    cases t <;> decide +kernel
  exact key x h
theorem tyX_ok {T : Kt} {ws : Ws} {H : Hp} {s : Sto} {d : D} {v : V} {x : String} (S : Sta T ws H s) (r : Rep T ws (mask ws H) d v) (h : tyD s d = some x) : L2.TyX T.K H v (.type x) := by
  cases d with
  | non => cases h; cases r; exact .base .non
  | bl x => cases h; cases r; exact .base (.bl x)
  | int i => cases h; cases r; exact .base (.int i)
  | str y => cases h; cases r; exact .base (.str y)
  | lst ds =>
    cases h
    obtain ⟨a, xs, rfl, h1, h2⟩ := r
    exact .base (.lst (mask_some h1).2)
  | lck ds =>
    cases h
    obtain ⟨a, xs, rfl, h1, h2⟩ := r
    rcases sqL_un h1 with (h | ⟨o, h⟩) | ⟨o, its, n, h, hc, _⟩
    · exact .base (.lst h)
    · exact .base (.frz h)
    · exact .kList h hc
  | tup ds =>
    cases h
    obtain ⟨a, xs, rfl, h1, h2⟩ := r
    rcases sqT_un h1 with (h | ⟨o, h⟩) | ⟨o, its, n, h, hc, _⟩
    · exact .base (.tup h)
    · exact .fTuple h
    · exact .kTuple h hc
  | dct t ks vs =>
    cases h
    obtain ⟨a, rfl, ⟨_, kvs, h1, _⟩ | ⟨_, kvs, h1, _⟩⟩ := r
    · exact .base (.dK (mask_some h1).2)
    · exact .base (.dT (mask_some h1).2)
  | set t ds => cases h
  | own l =>
    obtain ⟨a, h1, rfl⟩ := r
    unfold tyD at h
    dsimp only at h
    cases hl : s[l]? with
    | none => rw [hl] at h; cases h
    | some so =>
      rw [hl] at h
      obtain ⟨o, h3, h4⟩ := S.own l a _ h1 hl
      cases so with
      | lst ds => cases h; cases o <;> first | exact h4.elim | exact .base (.lst h3)
      | ins c ns vs => cases h
      | dct t ks vs => cases h; cases o <;> first | exact h4.elim | exact .base (.dK h3) | exact .base (.dT h3)
      | set t ds => cases h
  | ins c ns vs => cases h
  | fn n => cases h
  | lam _ _ _ _ _ => cases h
theorem tyC_ok {T : Kt} {ws : Ws} {H : Hp} {s : Sto} {d : D} {v : V} {c : Nat} (S : Sta T ws H s) (r : Rep T ws (mask ws H) d v) (h : clD s d = some c) : L2.TyX T.K H v (.ref (T.ad c)) ∧ InsC T.K (T.ad c) := by
  cases d with
  | ins c ns vs =>
    cases h
    obtain ⟨a, dx, fs, rfl, h1, ⟨k, _⟩, _⟩ := r
    exact ⟨.base (.ins (mask_some h1).2 k.cl k.ha k.hn k.ht k.hm), k⟩
  | own l =>
    obtain ⟨a, h1, rfl⟩ := r
    unfold clD at h
    dsimp only at h
    cases hl : s[l]? with
    | none => rw [hl] at h; cases h
    | some so =>
      rw [hl] at h
      obtain ⟨o, h3, h4⟩ := S.own l a _ h1 hl
      cases so with
      | ins c' ns vs =>
        cases h
        cases o <;> first
          | exact h4.elim
          | (obtain ⟨e, ⟨k, _⟩, _⟩ := h4; subst e; exact ⟨.base (.ins h3 k.cl k.ha k.hn k.ht k.hm), k⟩)
      | lst ds => cases h
      | dct t ks vs => cases h
      | set t ds => cases h
  | _ => cases h
section
variable {X : Cx} {C : Cn} {a b c e : Expr} {es : List Expr} {f g k : M D} {t u : M Bool} {pos p p' : Pos} {rest : List Expr}
def fIs (t : TN) (f : M D) : M D := bnd f fun x => got fun s => (isT t s x).map .bl
theorem de_isi {x : Str} (t : TN) (ha : DE X C a f) (hm : X.mg "isinstance" = none) (hmT : X.mg x = none) (hvT : bootBuiltins x = some (.type t.nm) := by decide +kernel) (hg : Gl X "isinstance" := by rfl) (hgT : Gl X x := by rfl)
    (hn : x ≠ "__name__" := by decide) (hdb : (x == ("__debug__" : Str)) = false := by decide)
    (he : starEach [a, .Name x p'] X.env = (false, eval a X.env) :: starEach [.Name x p'] X.env := by rfl) (he2 : starEach [.Name x p'] X.env = (false, eval (.Name x p') X.env) :: starEach [] X.env := by rfl)
    (hpl : (backTo pos (starEach [.Name x p'] X.env)).any (·.1) = false := by rfl) (hK : X.K = C.T.K := by rfl) : DE X C (.Call (.Name "isinstance" p) [a, .Name x p'] [] pos) (fIs t f) :=
  let ⟨_, pa, ea⟩ := ha.ex
  ⟨_, pe_callB call_isi hg hm PyProof.Rows.boot_isinstance (pa_cons pa (pa_cons (pe_bltn (v := .ty t.nm) hgT hmT hvT rfl hn hdb) pa_nil he2) he) (by decide) (by decide) he hpl, fun ws H s σ ρ R Q S N h xx q => (ea.b) S N h xx fun x s1 h v ws1 H1 t1 S1 r1 => by
    obtain ⟨z, h2, rfl⟩ := got_some h
    obtain ⟨y, h3, rfl⟩ := Option.map_eq_some_iff.mp h2
    rw [hK]
    unfold isT at h3
    split at h3
    · rename_i nm e
      cases h3
      exact ⟨v, .ty t.nm, _, _, _, rfl, .ty _, tyX_ok S1 r1 e, kit_isT t (tyD_in e), q _ _ rfl _ ws1 H1 t1 S1 rfl⟩
    · obtain ⟨c, e, rfl⟩ := Option.map_eq_some_iff.mp h3
      obtain ⟨k1, k2⟩ := tyC_ok S1 r1 e
      exact ⟨v, .ty t.nm, _, _, _, rfl, .ty _, k1, k2.nb t, q _ _ rfl _ ws1 H1 t1 S1 rfl⟩⟩
/-- isinstance(x, D), D an own class: the classes that are asked, each with its answer -/
def isCl (tab : List (Nat × Bool)) (s : Sto) (d : D) : Option Bool := match clD s d with
  | some c => tab.lookup c
  | none => (tyD s d).map fun _ => false
def fIsC (tab : List (Nat × Bool)) (f : M D) : M D := bnd f fun x => got fun s => (isCl tab s x).map .bl
theorem lookup_mem {α : Type} : ∀ {l : List (Nat × α)} {n : Nat} {a : α}, l.lookup n = some a → (n, a) ∈ l
  | [], _, _, h => by cases h
  | (m, b) :: l, n, a, h => by
    by_cases e : n = m
    · subst e
      simp [List.lookup] at h
      rw [h]
      exact List.mem_cons_self
    · have : (n == m) = false := by simpa using e
      simp [List.lookup, this] at h
      exact List.mem_cons_of_mem _ (lookup_mem h)
theorem de_isc {x : Str} {D0 : Nat} (tab : List (Nat × Bool)) (ha : DE X C a f) (hm : X.mg "isinstance" = none) (hmT : X.mg x = some (.ref (C.T.ad D0))) (hty : ∀ x ∈ tyN, PySem.W.kitOne C.T.K (.type x) (.ref (C.T.ad D0)) = some false)
    (htb : ∀ q ∈ tab, PySem.W.kitOne C.T.K (.ref (C.T.ad q.1)) (.ref (C.T.ad D0)) = some q.2) (hg : Gl X "isinstance" := by rfl) (hgT : Gl X x := by rfl) (hdb : (x == ("__debug__" : Str)) = false := by decide)
    (he : starEach [a, .Name x p'] X.env = (false, eval a X.env) :: starEach [.Name x p'] X.env := by rfl) (he2 : starEach [.Name x p'] X.env = (false, eval (.Name x p') X.env) :: starEach [] X.env := by rfl)
    (hpl : (backTo pos (starEach [.Name x p'] X.env)).any (·.1) = false := by rfl) (hK : X.K = C.T.K := by rfl) : DE X C (.Call (.Name "isinstance" p) [a, .Name x p'] [] pos) (fIsC tab f) :=
  let ⟨_, pa, ea⟩ := ha.ex
  ⟨_, pe_callB call_isi hg hm PyProof.Rows.boot_isinstance (pa_cons pa (pa_cons (pe_glob (v := .ref (C.T.ad D0)) hgT hmT rfl hdb) pa_nil he2) he) (by decide) (by decide) he hpl, fun ws H s σ ρ R Q S N h xx q => (ea.b) S N h xx fun x s1 h v ws1 H1 t1 S1 r1 => by
    obtain ⟨z, h2, rfl⟩ := got_some h
    obtain ⟨y, h3, rfl⟩ := Option.map_eq_some_iff.mp h2
    rw [hK]
    unfold isCl at h3
    split at h3
    · rename_i c e
      obtain ⟨k1, k2⟩ := tyC_ok S1 r1 e
      exact ⟨v, .ref (C.T.ad D0), _, _, _, rfl, .own _, k1, htb _ (lookup_mem h3), q _ _ rfl _ ws1 H1 t1 S1 rfl⟩
    · obtain ⟨c, e, rfl⟩ := Option.map_eq_some_iff.mp h3
      exact ⟨v, .ref (C.T.ad D0), _, _, _, rfl, .own _, tyX_ok S1 r1 e, hty _ (tyD_in e), q _ _ rfl _ ws1 H1 t1 S1 rfl⟩⟩

/-! ### defs -/
abbrev FM := Sto → List D → Option (Res D)
/-- the wish of a caller about an error -/
def XE' (T : Kt) (ws : Ws) (H : Hp) (E : XK) (r : Res D) : Prop := match r with
  | .ok _ _ => True
  | .ex e s' => ∀ cls dx ws' H', Stp ws H ws' H' → Sta T ws' H' s' → ExRep T ws' H' e cls dx → E cls dx H'
/-- the promise of a def: m tells its value, and the owned objects behind -/
def spF (T : Kt) (n : Nat) (m : FM) : Sp := fun vs H Q E => vs.length = n ∧ ∃ ws s ds r, Sta T ws H s ∧ Reps T ws (mask ws H) ds vs ∧ m s ds = some r ∧ XE' T ws H E r ∧
  ∀ d s', r = .ok d s' → ∀ v ws' H', Stp ws H ws' H' → Sta T ws' H' s' → Rep T ws' (mask ws' H') d v → Q v H'
def fCall (n : Nat) (m : FM) (fa : M (List D)) : M D := bnd fa fun xs => fun _ s => if xs.length = n then m s xs else none
theorem xe_of {ws : Ws} {H : Hp} {σ : L2.St} {R : Res D} (h : XOk C ws H σ R) : XE' C.T ws H (WE C.W σ) R := by
  cases R with
  | ok x s => exact True.intro
  | ex e s => exact h
theorem de_call {x : Str} {fa : M (List D)} {n k : Nat} {m : FM} {fd : FuncData} {ps : List Str} {f : Addr} (tk : Takes X C.W) (F : FnOk X.prog X.w X.K X.mg X.base (L2.CX X.prog X.w) k f fd ps (spF C.T n m)) (hr : Room k X.A) (hm : X.mg x = some (.ref f)) (hk : PySem.W.keepIn X.K (.ref f) = true) (hb : Binds X.K fd ps [])
    (ha : DA X C (e :: es) fa) (hg : Gl X x := by rfl) (hdb : (x == ("__debug__" : Str)) = false := by decide)
    (he : starEach (e :: es) X.env = (false, eval e X.env) :: starEach es X.env := by rfl) (hpl : (backTo pos (starEach es X.env)).any (·.1) = false := by rfl) : DE X C (.Call (.Name x p) (e :: es) [] pos) (fCall n m fa) :=
  let ⟨_, pa, ea⟩ := ha.ex
  ⟨_, pe_callS F hr hg hm hk hb (passAt tk) pa hdb he hpl, fun ws H s σ ρ R Q S N h xx q => (ea.b) S N h xx fun xs s1 h vs ws1 H1 t1 S1 r1 => by
    split at h
    · rename_i hn
      exact ⟨by rw [← r1.length]; exact hn, ws1, s1, xs, R, S1, r1, h, xe_of (xx.stp t1), fun d s' e v ws2 H2 t2 S2 r2 => q d s' e v ws2 H2 (t1.trans t2) S2 r2⟩
    · cases h⟩

/-! ### what is walked -/
/-- the items, and the owned list that is walked (with what it holds) -/
abbrev Src := List D × Option (Nat × List D)
def chk : Option (Nat × List D) → Sto → Bool
  | none, _ => true
  | some (l, ds), s => match lstAt s l with
    | some es => sameDs es ds
    | none => false
theorem chk_own {l : Nat} {ds : List D} {s : Sto} (h : chk (some (l, ds)) s = true) : lstAt s l = some ds := by
  unfold chk at h
  split at h
  · rename_i hh; cases hh
  · rename_i l' ds' hh
    cases hh
    split at h
    · rename_i es e
      rw [e, sameDs_ok _ _ h]
    · cases h
structure Wk (T : Kt) (J : It) (ws : Ws) (H : Hp) (z : Src) : Prop where
  step : ∀ i d ws2 H2 s2, Stq ws H ws2 H2 → Sta T ws2 H2 s2 → chk z.2 s2 = true → z.1[i]? = some d → J.go i H2 ∧ ∀ x H3, J.yld i H2 x H3 → Stp ws2 H2 ws2 H3 ∧ Sta T ws2 H3 s2 ∧ Rep T ws2 (mask ws2 H3) d x
  stop : ∀ ws2 H2 s2, Stq ws H ws2 H2 → Sta T ws2 H2 s2 → chk z.2 s2 = true → J.stop z.1.length H2
def EvI (C : Cn) (wi : TI) (f : M Src) : Prop := ∀ (ws : Ws) (H : Hp) (s : Sto) (σ : L2.St) (ρ : Rho) (r : Res Src) (R : It → Hp → Prop), Sta C.T ws H s → EnvOk C.T C.x ws H σ ρ → f ρ s = some r → XOk C ws H σ r →
  (∀ z s', r = .ok z s' → ∀ J ws' H', Stp ws H ws' H' → Sta C.T ws' H' s' → Wk C.T J ws' H' z → R J H') → wi σ H R
structure DI (X : Cx) (C : Cn) (tg e : Expr) (f : M Src) : Prop where
  ex : ∃ wi, PI X tg e wi ∧ EvI C wi f
theorem wk_list {T : Kt} {ws : Ws} {H : Hp} {a : Addr} {xs : List V} {ds : List D} (h : SqL T.K (mask ws H) a xs) (r : Reps T ws (mask ws H) ds xs) : Wk T (Itl T.K a) ws H (ds, none) where
  step := fun i d ws2 H2 s2 t S _ e => by
    have h2 : SqL T.K H2 a xs := sqL_un (sqL_mono t.fz h)
    obtain ⟨v, e1, r1⟩ := (r.stq t).get e
    refine ⟨⟨xs, v, h2, e1⟩, fun x H3 y => ?_⟩
    obtain ⟨rfl, y⟩ := y
    have := y xs h2
    rw [e1] at this
    cases this
    exact ⟨Stp.refl _ _, S, r1⟩
  stop := fun ws2 H2 s2 t S _ => ⟨xs, sqL_un (sqL_mono t.fz h), by rw [r.length]; exact Nat.le_refl _⟩
theorem wk_tup {T : Kt} {ws : Ws} {H : Hp} {a : Addr} {xs : List V} {ds : List D} (h : mask ws H a = some (.tup xs)) (r : Reps T ws (mask ws H) ds xs) : Wk T (Itt T.K a) ws H (ds, none) where
  step := fun i d ws2 H2 s2 t S _ e => by
    have h2 : SqT T.K H2 a xs := sqT_un (t.fz _ _ h)
    obtain ⟨v, e1, r1⟩ := (r.stq t).get e
    refine ⟨⟨xs, v, h2, e1⟩, fun x H3 y => ?_⟩
    obtain ⟨rfl, y⟩ := y
    have := y xs h2
    rw [e1] at this
    cases this
    exact ⟨Stp.refl _ _, S, r1⟩
  stop := fun ws2 H2 s2 t S _ => ⟨xs, sqT_un (t.fz _ _ h), by rw [r.length]; exact Nat.le_refl _⟩
/-- range -/
def rngD (lo : Int) (n : Nat) : List D := (List.range n).map fun (i : Nat) => .int (lo + (i : Int))
theorem wk_range {T : Kt} {ws : Ws} {H : Hp} {lo : Int} {n : Nat} : Wk T (Itr lo n) ws H (rngD lo n, none) where
  step := fun i d ws2 H2 s2 t S _ e => by
    unfold rngD at e
    simp only [List.getElem?_map, Option.map_eq_some_iff] at e
    obtain ⟨j, e, rfl⟩ := e
    obtain ⟨h1, h2⟩ := List.getElem?_eq_some_iff.mp e
    simp at h1 h2
    subst h2
    refine ⟨h1, fun x H3 y => ?_⟩
    obtain ⟨rfl, rfl⟩ := y
    exact ⟨Stp.refl _ _, S, rfl⟩
  stop := fun ws2 H2 s2 t S _ => by
    show n ≤ (rngD lo n).length
    unfold rngD
    rw [List.length_map, List.length_range]
    exact Nat.le_refl _
def fRng1 (f : M D) : M Src := bnd f fun x => got fun _ => match x with
  | .int j => if smallI j = true then some (rngD 0 j.toNat, none) else none
  | _ => none
def fRng2 (f g : M D) : M Src := bnd f fun x => bnd g fun y => got fun _ => match x, y with
  | .int i, .int j => if smallI i = true ∧ smallI j = true then some (rngD i (j - i).toNat, none) else none
  | _, _ => none
theorem di_range1 {tg : Expr} (ha : DE X C a f) (hm : X.mg "range" = none) (hg : Gl X "range" := by rfl) (hs : starEach [a] X.env = [(false, eval a X.env)] := by rfl) : DI X C tg (.Call (.Name "range" p) [a] [] pos) (fRng1 f) :=
  let ⟨_, pa, ea⟩ := ha.ex
  ⟨_, pi_range1 hg hm (pa_cons pa pa_nil hs) hs, fun ws H s σ ρ r R S N h xx q => (ea.b) S N h xx fun x s1 h v ws1 H1 t1 S1 r1 => by
    obtain ⟨z, h2, rfl⟩ := got_some h
    split at h2
    · split at h2
      · rename_i j hj
        cases h2
        cases r1
        exact ⟨_, rfl, ((smallI_iff _).mp hj).1, ((smallI_iff _).mp hj).2, q _ _ rfl _ ws1 H1 t1 S1 wk_range⟩
      · cases h2
    · cases h2⟩
theorem di_range2 {tg : Expr} (ha : DE X C a f) (hb : DE X C b g) (hm : X.mg "range" = none) (hg : Gl X "range" := by rfl) (hs : starEach [a, b] X.env = [(false, eval a X.env), (false, eval b X.env)] := by rfl) (hs2 : starEach [b] X.env = [(false, eval b X.env)] := by rfl) : DI X C tg (.Call (.Name "range" p) [a, b] [] pos) (fRng2 f g) :=
  let ⟨_, pa, ea⟩ := ha.ex
  let ⟨_, pb, eb⟩ := hb.ex
  ⟨_, pi_range2 hg hm (pa_cons pa (pa_cons pb pa_nil hs2) (by rw [hs, hs2])) hs hs2, fun ws H s σ ρ r R S N h xx q => (ea.b) S N h xx fun x s1 h0 v ws1 H1 t1 S1 r1 => (eb.b) S1 (N.stp t1) h0 (xx.stp t1) fun y s2 h4 u ws2 H2 t2 S2 r2 => by
    obtain ⟨z, h2, rfl⟩ := got_some h4
    split at h2
    · split at h2
      · rename_i i j hj
        cases h2
        cases r1
        cases r2
        exact ⟨_, _, rfl, ⟨((smallI_iff _).mp hj.1).1, ((smallI_iff _).mp hj.1).2, ((smallI_iff _).mp hj.2).1, ((smallI_iff _).mp hj.2).2⟩, q _ _ rfl _ ws2 H2 (t1.trans t2) S2 wk_range⟩
      · cases h2
    · cases h2⟩
/-- a text, sign by sign -/
def signs (x : Str) : List D := x.cps.toList.map fun c => .str ⟨#[c]⟩
theorem wk_str {T : Kt} {ws : Ws} {H : Hp} {x : Str} : Wk T (Its x) ws H (signs x, none) where
  step := fun i d ws2 H2 s2 t S _ e => by
    unfold signs at e
    simp only [List.getElem?_map, Option.map_eq_some_iff] at e
    obtain ⟨c, e, rfl⟩ := e
    have e' : x.cps[i]? = some c := by simpa using e
    refine ⟨(Array.getElem?_eq_some_iff.mp e').1, fun v H3 y => ?_⟩
    obtain ⟨rfl, c', h1, rfl⟩ := y
    rw [e'] at h1
    cases h1
    exact ⟨Stp.refl _ _, S, rfl⟩
  stop := fun ws2 H2 s2 t S _ => by
    show x.cps.size ≤ (signs x).length
    unfold signs
    rw [List.length_map, Array.length_toList]
    exact Nat.le_refl _
/-- any of these: a list, an owned list, a tuple, a text -/
theorem wk_own {T : Kt} {ws : Ws} {H : Hp} {a : Addr} {l : Nat} {ds : List D} (h : ws.own[l]? = some a) : Wk T (Itl T.K a) ws H (ds, some (l, ds)) where
  step := fun i d ws2 H2 s2 t S ck e => by
    obtain ⟨xs, h2, r⟩ := S.lst (pre_get t.pre h) (chk_own ck)
    obtain ⟨v, e1, r1⟩ := r.get e
    refine ⟨⟨xs, v, .of h2, e1⟩, fun x H3 y => ?_⟩
    obtain ⟨rfl, y⟩ := y
    have := y xs (.of h2)
    rw [e1] at this
    cases this
    exact ⟨Stp.refl _ _, S, r1⟩
  stop := fun ws2 H2 s2 t S ck => by
    obtain ⟨xs, h2, r⟩ := S.lst (pre_get t.pre h) (chk_own ck)
    exact ⟨xs, .of h2, by rw [← r.length]; exact Nat.le_refl _⟩
theorem pi_or {tg : Expr} {w1 w2 : TI} (h1 : PI X tg e w1) (h2 : PI X tg e w2) : PI X tg e (fun σ H R => w1 σ H R ∨ w2 σ H R) :=
  ⟨fun pins s σ H R I h => h.elim (h1.run pins s σ H R I) (h2.run pins s σ H R I)⟩
def srcA (s : Sto) : D → Option Src
  | .lst ds => some (ds, none)
  | .lck ds => some (ds, none)
  | .tup ds => some (ds, none)
  | .str z => some (signs z, none)
  | .own l => (lstAt s l).map fun ds => (ds, some (l, ds))
  | _ => none
def fSrc (f : M D) : M Src := bnd f fun x => got fun s => srcA s x
theorem di_any {tg : Expr} (ha : DE X C e f) (hK : X.K = C.T.K := by rfl) : DI X C tg e (fSrc f) :=
  let ⟨_, pa, ea⟩ := ha.ex
  ⟨_, pi_or (pi_list pa) (pi_or (pi_tup pa) (pi_str pa)), fun ws H s σ ρ r R S N h xx q => by
    unfold fSrc bnd at h
    split at h
    · rename_i x s1 h1
      obtain ⟨z, h2, rfl⟩ := got_some h
      cases x with
      | lst ds =>
        cases h2
        refine .inl (ea ws H s σ ρ _ _ S N h1 True.intro fun d s2 e v ws1 H1 t1 S1 r1 => ?_)
        cases e
        obtain ⟨a, xs, rfl, k1, k2⟩ := r1
        exact ⟨a, rfl, ⟨xs, .of (mask_some k1).2⟩, hK ▸ q _ _ rfl _ ws1 H1 t1 S1 (wk_list (.of k1) k2)⟩
      | lck ds =>
        cases h2
        refine .inl (ea ws H s σ ρ _ _ S N h1 True.intro fun d s2 e v ws1 H1 t1 S1 r1 => ?_)
        cases e
        obtain ⟨a, xs, rfl, k1, k2⟩ := r1
        exact ⟨a, rfl, ⟨xs, hK ▸ sqL_un k1⟩, hK ▸ q _ _ rfl _ ws1 H1 t1 S1 (wk_list k1 k2)⟩
      | own l =>
        obtain ⟨ds, h3, rfl⟩ := Option.map_eq_some_iff.mp h2
        refine .inl (ea ws H s σ ρ _ _ S N h1 True.intro fun d s2 e v ws1 H1 t1 S1 r1 => ?_)
        cases e
        obtain ⟨a, k1, rfl⟩ := r1
        obtain ⟨xs, k2, k3⟩ := S1.lst k1 h3
        exact ⟨a, rfl, ⟨xs, .of k2⟩, hK ▸ q _ _ rfl _ ws1 H1 t1 S1 (wk_own k1)⟩
      | tup ds =>
        cases h2
        refine .inr (.inl (ea ws H s σ ρ _ _ S N h1 True.intro fun d s2 e v ws1 H1 t1 S1 r1 => ?_))
        cases e
        obtain ⟨a, xs, rfl, k1, k2⟩ := r1
        exact ⟨a, rfl, ⟨xs, hK ▸ sqT_un k1⟩, hK ▸ q _ _ rfl _ ws1 H1 t1 S1 (wk_tup k1 k2)⟩
      | str z =>
        cases h2
        refine .inr (.inr (ea ws H s σ ρ _ _ S N h1 True.intro fun d s2 e v ws1 H1 t1 S1 r1 => ?_))
        cases e
        cases r1
        exact ⟨_, rfl, q _ _ rfl _ ws1 H1 t1 S1 wk_str⟩
      | _ => cases h2
    · rename_i e s1 h1
      cases h
      exact .inl (ea ws H s σ ρ _ _ S N h1 xx fun d s' e => nomatch e)
    · cases h⟩

/-! ### targets -/
structure DG (X : Cx) (C : Cn) (tg : Expr) (g : D → Rho → Option Rho) (is : List Nat) : Prop where
  ex : ∃ t, PG X tg t ∧ ∀ ws H σ ρ d v ρ' Q, EnvOk C.T C.x ws H σ ρ → Rep C.T ws (mask ws H) d v → g d ρ = some ρ' → (∀ σ', EnvOk C.T C.x ws H σ' ρ' → (∀ vs, (∀ i ∈ is, i ∈ vs) → L2.wipe σ' vs = L2.wipe σ vs) → Q σ' H) → t v σ H Q
structure DGs (X : Cx) (C : Cn) (tgs : List Expr) (g : List D → Rho → Option Rho) (is : List Nat) : Prop where
  ex : ∃ t, PGs X tgs t ∧ ∀ ws H σ ρ ds vs ρ' Q, EnvOk C.T C.x ws H σ ρ → Reps C.T ws (mask ws H) ds vs → g ds ρ = some ρ' → (∀ σ', EnvOk C.T C.x ws H σ' ρ' → (∀ vs, (∀ i ∈ is, i ∈ vs) → L2.wipe σ' vs = L2.wipe σ vs) → Q σ' H) → t vs σ H Q
theorem wipe_set {σ : L2.St} {i : Nat} {x : Option V} : ∀ {vs : List Nat}, i ∉ vs → L2.wipe (σ.set i x) vs = (L2.wipe σ vs).set i x
  | [], _ => rfl
  | v :: vs, h => by
    have h1 : i ≠ v := fun e => h (by rw [e]; exact List.mem_cons_self)
    have h2 : i ∉ vs := fun e => h (List.mem_cons_of_mem _ e)
    unfold L2.wipe
    rw [wipe_set h2, List.set_comm _ _ h1]
theorem wipe_in {σ : L2.St} {i : Nat} {x : Option V} : ∀ {vs : List Nat}, i ∈ vs → L2.wipe (σ.set i x) vs = L2.wipe σ vs
  | v :: vs, h => by
    unfold L2.wipe
    by_cases h2 : i ∈ vs
    · rw [wipe_in h2]
    · have e : i = v := by
        rcases List.mem_cons.mp h with e | e
        · exact e
        · exact absurd e h2
      subst e
      rw [wipe_set h2, List.set_set]
def gNm (i : Nat) (d : D) (ρ : Rho) : Option Rho := some (ρ.set i (some d))
theorem dg_name (i : Nat) {x : Str} (hN : X.N.Nodup) (hi : X.N[i]? = some x := by rfl) (hx : Loc X.env.scope x := by first | exact Or.inl rfl | exact Or.inr rfl) (hf : X.fn x = true ∨ X.env.scope.names.lookup x = some .local := by first | exact .inl rfl | exact .inr rfl | assumption) (hns : nsl C.x i := by first | exact True.intro | (show (_ : Nat) ≠ _; decide)) : DG X C (.Name x pos) (gNm i) [i] :=
  ⟨_, pg_name hN hi hx hf, fun ws H σ ρ d v ρ' Q N r h q => by
    cases h
    exact q _ (N.set r hns) fun vs hv => wipe_in (hv i (List.mem_singleton.mpr rfl))⟩
def gNl (ds : List D) (ρ : Rho) : Option Rho := match ds with
  | [] => some ρ
  | _ => none
def gCn (g : D → Rho → Option Rho) (gs : List D → Rho → Option Rho) (ds : List D) (ρ : Rho) : Option Rho := match ds with
  | d :: r => match g d ρ with
    | some ρ1 => gs r ρ1
    | none => none
  | [] => none
theorem dgs_nil : DGs X C [] gNl [] := ⟨_, pgs_nil, fun ws H σ ρ ds vs ρ' Q N r h q => by
  unfold gNl at h
  split at h
  · cases h
    cases r
    exact ⟨rfl, q σ N fun _ _ => rfl⟩
  · cases h⟩
theorem dgs_cons {e : Expr} {es : List Expr} {g : D → Rho → Option Rho} {gs : List D → Rho → Option Rho} {is js : List Nat} (h1 : DG X C e g is) (h2 : DGs X C es gs js) (hs : (assignEach (e :: es) X.env).map (·.2) = assign e X.env :: (assignEach es X.env).map (·.2) := by rfl) : DGs X C (e :: es) (gCn g gs) (is ++ js) :=
  let ⟨_, pa, ea⟩ := h1.ex
  let ⟨_, pb, eb⟩ := h2.ex
  ⟨_, pgs_cons pa pb hs, fun ws H σ ρ ds vs ρ' Q N r h q => by
    unfold gCn at h
    split at h
    · rename_i d ds'
      obtain ⟨v, w, rfl, r1, r2⟩ := r
      split at h
      · rename_i ρ1 h3
        refine ⟨v, w, rfl, ea ws H σ ρ d v ρ1 _ N r1 h3 fun σ1 N1 w1 => eb ws H σ1 ρ1 ds' w ρ' _ N1 r2 h fun σ2 N2 w2 => q σ2 N2 fun vs hv => ?_⟩
        rw [w2 vs fun i hi => hv i (List.mem_append_right _ hi), w1 vs fun i hi => hv i (List.mem_append_left _ hi)]
      · cases h
    · cases h⟩
def gTp (n : Nat) (gs : List D → Rho → Option Rho) (d : D) (ρ : Rho) : Option Rho := match d with
  | .tup ds => if ds.length = n then gs ds ρ else none
  | _ => none
theorem dg_tup {es : List Expr} {k n : Nat} {gs : List D → Rho → Option Rho} {is : List Nat} (hc : X.calm = true) (h : DGs X C es gs is) (hn : (assignEach es X.env).length = n := by rfl) (hst : (assignEach es X.env).findIdx? (·.1) = none := by rfl) (hK : X.K = C.T.K := by rfl) : DG X C (.Tuple es k pos) (gTp n gs) is :=
  let ⟨_, pa, ea⟩ := h.ex
  ⟨_, pg_tup hc pa hn hst, fun ws H σ ρ d v ρ' Q N r h q => by
    unfold gTp at h
    split at h
    · split at h
      · rename_i ds hl
        obtain ⟨a, xs, rfl, k1, k2⟩ := r
        exact ⟨a, xs, rfl, hK ▸ sqT_un k1, by rw [← k2.length]; exact hl, ea ws H σ ρ ds xs ρ' Q N k2 h q⟩
      · cases h
    · cases h⟩
end
end
end VM
set_option Elab.async false
set_option maxRecDepth 100000
set_option maxHeartbeats 4000000
set_option linter.all false
set_option autoImplicit false
namespace VM
open PySem L2
noncomputable section

/-! ### comprehensions -/
structure DTs (X : Cx) (C : Cn) (ifs : List Expr) (f : M Bool) : Prop where
  ex : ∃ tt, PTs X ifs tt ∧ EvT C tt f
theorem dts_nil {X : Cx} {C : Cn} : DTs X C [] (ret true) := ⟨_, pts_nil, fun ws H s σ ρ R Q S N h xx q => by
  cases ret_some h
  exact q _ _ rfl ws H (Stp.refl _ _) S⟩
theorem dts_one {X : Cx} {C : Cn} {c : Expr} {t : M Bool} (h : DT X C c t) : DTs X C [c] t := let ⟨_, pa, ea⟩ := h.ex; ⟨_, pts_one pa, ea⟩
/-- nothing is let out -/
abbrev W0 : WX := fun _ _ _ _ => False
abbrev Cn.in0 (C : Cn) : Cn := ⟨C.T, W0, C.x⟩
def lcL (g : D → Rho → Option Rho) (ft : M Bool) (fe : M D) (ck : Option (Nat × List D)) (ρ : Rho) : List D → Sto → Option (List D × Sto)
  | [], s => if chk ck s = true then some ([], s) else none
  | d :: ds, s => if chk ck s = true then match g d ρ with
    | some ρ1 => match ft ρ1 s with
      | some (.ok true s1) => match fe ρ1 s1 with
        | some (.ok y s2) => match lcL g ft fe ck ρ ds s2 with
          | some (ys, s3) => some (y :: ys, s3)
          | none => none
        | _ => none
      | some (.ok false s1) => lcL g ft fe ck ρ ds s1
      | _ => none
    | none => none
    else none
def fLc (fi : M Src) (g : D → Rho → Option Rho) (ft : M Bool) (fe : M D) (vs : List Nat) : M D := bnd fi fun z => fun ρ s => if z.1.length ≤ LIM then match lcL g ft fe z.2 (wipeD ρ vs) z.1 s with
  | some (ys, s') => some (.ok (.lst ys) s')
  | none => none
  else none
theorem mask_hide {ws : Ws} {H : Hp} {p : Addr} {o : HO} (h : H p = none) : mask ⟨ws.own, p :: ws.hid⟩ (upd H p o) = mask ws H := by
  funext a
  unfold mask
  by_cases ha : a = p
  · subst ha
    rw [if_pos (.inr List.mem_cons_self), h]
    split <;> rfl
  · rw [upd_ne ha]
    by_cases h1 : a ∈ ws.own ∨ a ∈ ws.hid
    · rw [if_pos h1, if_pos (h1.imp id (List.mem_cons_of_mem _))]
    · rw [if_neg h1, if_neg (fun z => h1 (z.imp id fun z => (List.mem_cons.mp z).resolve_left ha))]
theorem lcL_len {g : D → Rho → Option Rho} {ft : M Bool} {fe : M D} {ck : Option (Nat × List D)} {ρ : Rho} : ∀ {ds : List D} {s : Sto} {ys : List D} {s' : Sto}, lcL g ft fe ck ρ ds s = some (ys, s') → ys.length ≤ ds.length
  | [], s, ys, s', h => by
    unfold lcL at h
    split at h
    · cases h; exact Nat.le_refl _
    · cases h
  | d :: ds, s, ys, s', h => by
    unfold lcL at h
    split at h
    · split at h
      · split at h
        · split at h
          · split at h
            · rename_i zs s3 h1
              cases h
              have := lcL_len h1
              exact Nat.succ_le_succ this
            · cases h
          · cases h
        · exact Nat.le_succ_of_le (lcL_len h)
        · cases h
      · cases h
    · cases h
/-- what is already made, and what the rest gives -/
theorem ev_lc {C : Cn} {wi : TI} {tg : TG} {tt : TT} {te : TE} {fi : M Src} {g : D → Rho → Option Rho} {ft : M Bool} {fe : M D} {is vs : List Nat} (hi : EvI C wi fi)
    (hg : ∀ ws H σ ρ d v ρ' Q, EnvOk C.T C.x ws H σ ρ → Rep C.T ws (mask ws H) d v → g d ρ = some ρ' → (∀ σ', EnvOk C.T C.x ws H σ' ρ' → (∀ vs, (∀ i ∈ is, i ∈ vs) → L2.wipe σ' vs = L2.wipe σ vs) → Q σ' H) → tg v σ H Q)
    (hv : ∀ i ∈ is, i ∈ vs) (hvx : ∀ i ∈ vs, nsl C.x i) (ht : EvT C.in0 tt ft) (he : EvS C.in0 te fe) : EvS C (tLc wi tg tt te vs) (fLc fi g ft fe vs) := by
  intro ws H s σ ρ R Q S N h xx q
  unfold fLc bnd at h
  split at h
  rotate_left
  · rename_i e s1 h1
    cases h
    exact hi ws H s σ ρ _ _ S N h1 xx fun z s' e => nomatch e
  · cases h
  rename_i z s1 h1
  dsimp only at h
  split at h
  · rename_i hlim
    split at h
    · rename_i ys sE hl
      cases h
      refine hi ws H s σ ρ _ _ S N h1 True.intro fun z' s1' ez J ws1 H1 t1 S1 wk Dd hD => ?_
      cases ez
      have hwipe : ∀ σ0, L2.wipe (L2.wipe σ0 vs) vs = L2.wipe σ0 vs := by
        have gen : ∀ (us : List Nat) (σ0 : L2.St), (∀ u ∈ us, u ∈ vs) → L2.wipe (L2.wipe σ0 us) vs = L2.wipe σ0 vs := by
          intro us
          induction us with
          | nil => intro σ0 _; rfl
          | cons u us ih =>
            intro σ0 hu
            show L2.wipe ((L2.wipe σ0 us).set u none) vs = _
            rw [wipe_in (hu u List.mem_cons_self)]
            exact ih σ0 fun w hw => hu w (List.mem_cons_of_mem _ hw)
        intro σ0
        exact gen vs σ0 fun _ z => z
      -- the state within
      let In : Nat → List D → Sto → List V → Ws → Hp → Prop := fun i acc s2 xs ws2 H2 =>
        Dd ∈ ws2.hid ∧ Stp ⟨ws1.own, ws1.hid⟩ H1 ⟨ws2.own, ws2.hid⟩ H2 ∧ Sta C.T ws2 H2 s2 ∧ H2 Dd = some (.lst xs) ∧ Reps C.T ws2 (mask ws2 H2) acc xs ∧ i ≤ z.1.length ∧ acc.length ≤ i ∧
          ∃ rest, ys = acc ++ rest ∧ lcL g ft fe z.2 (wipeD ρ vs) (z.1.drop i) s2 = some (rest, sE)
      refine ⟨fun i m H2 => m = z.1.length - i ∧ ∃ acc s2 xs ws2, In i acc s2 xs ws2 H2, ⟨_, rfl, [], s1, [], ⟨ws1.own, Dd :: ws1.hid⟩, ?_⟩, ?_⟩
      · have hm : mask ⟨ws1.own, Dd :: ws1.hid⟩ (upd H1 Dd (.lst [])) = mask ws1 H1 := mask_hide hD
        have hfr := S1.fresh hD
        refine ⟨List.mem_cons_self, ⟨List.prefix_refl _, fun a z => List.mem_cons_of_mem _ z, fun a o e => by rw [hm]; exact e, fun a z => upd_ne fun e => hfr.2 (e ▸ z)⟩, ⟨S1.nd, S1.len, ?_, ?_, ?_, tabs_new S1.tab hD⟩, upd_same, rfl, Nat.zero_le _, Nat.le_refl _, ys, rfl, by rw [List.drop_zero]; exact hl⟩
        · intro a z
          rcases List.mem_cons.mp z with e | z
          · rw [e]; exact hfr.1
          · exact S1.dis a z
        · intro a z
          rcases List.mem_cons.mp z with e | z
          · rw [e]; exact ⟨_, upd_same, True.intro⟩
          · obtain ⟨o, e, hd⟩ := S1.hid a z
            exact ⟨o, by rw [upd_ne (fun (q : a = Dd) => hfr.2 (by rw [← q]; exact z))]; exact e, hd⟩
        · intro l a ds e1 e2
          obtain ⟨xs, k1, k2⟩ := S1.own l a ds e1 e2
          refine ⟨xs, by rw [upd_ne (ne_of_none k1 hD)]; exact k1, ?_⟩
          rw [hm]
          exact SoRel.mono (ws := ws1) (ws' := ⟨ws1.own, Dd :: ws1.hid⟩) (List.prefix_refl _) (fun _ _ z => z) k2
      · rintro i m H2 ⟨rfl, acc, s2, xs, ws2, hd, t2, S2, hDd, rx, hi', hacc, rest, hys, hl2⟩
        by_cases hlt : i < z.1.length
        · rw [List.drop_eq_getElem_cons hlt] at hl2
          unfold lcL at hl2
          split at hl2
          · rename_i hck
            split at hl2
            · rename_i ρ1 hg1
              obtain ⟨go, yl⟩ := wk.step i z.1[i] ws2 H2 s2 t2.q S2 hck (List.getElem?_eq_getElem hlt)
              refine .inr ⟨go, fun H5 => ∃ acc s2 xs ws2, In (i + 1) acc s2 xs ws2 H5, fun H5 h5 => ⟨_, by omega, rfl, h5⟩, fun x H3 y => ?_⟩
              obtain ⟨t3, S3, r3⟩ := yl x H3 y
              have NE : EnvOk C.T C.x ws2 H3 (L2.wipe σ vs) (wipeD ρ vs) := by
                have N1 := (N.wipe vs hvx).stp t1
                refine ⟨N1.len, fun j e hj => ?_, fun q e => ?_⟩
                · obtain ⟨v, e1, e2⟩ := N1.at_ j e hj
                  exact ⟨v, e1, (Rep.stp t2 e2).stp t3⟩
                · obtain ⟨e1, cls, e2⟩ := N1.ex q e
                  exact ⟨e1, cls, (ExRep.stp t2 e2).stp t3⟩
              refine hg ws2 H3 _ _ _ x ρ1 _ NE r3 hg1 fun σ2 N2 w2 => ⟨by rw [w2 vs hv, hwipe], ?_⟩
              split at hl2
              · rename_i s3 hft
                refine ht ws2 H3 s2 σ2 ρ1 _ _ S3 N2 hft True.intro fun d0 s0 e0 ws3 H4 t4 S4 => ?_
                cases e0
                rw [if_pos rfl]
                split at hl2
                · rename_i y' s4 hfe
                  refine he ws3 H4 s3 σ2 ρ1 _ _ S4 (N2.stp t4) hfe True.intro fun d1 s1 e1 v ws4 H6 t5 S5 r5 => ?_
                  cases e1
                  split at hl2
                  · rename_i zs s5 hl3
                    cases hl2
                    have tt := (t3.trans t4).trans t5
                    have hd4 : Dd ∈ ws4.hid := tt.hid _ hd
                    have hD4 : H6 Dd = some (.lst xs) := (tt.hk Dd hd).trans hDd
                    have hm : mask ws4 (upd H6 Dd (.lst (xs ++ [v]))) = mask ws4 H6 := by
                      funext a
                      unfold mask
                      by_cases ha : a = Dd
                      · subst ha
                        rw [if_pos (.inr hd4), if_pos (.inr hd4)]
                      · rw [upd_ne ha]
                    have hz := rx.length
                    refine ⟨xs, hD4, lim_lt (by omega), acc ++ [y'], s4, xs ++ [v], ws4, hd4, ⟨t2.pre.trans tt.pre, fun a q => tt.hid a (t2.hid a q), fun a o q => by rw [hm]; exact tt.fz a o (t2.fz a o q), fun a q => ?_⟩, ⟨S5.nd, S5.len, S5.dis, ?_, ?_, tabs_lst S5.tab hD4⟩, upd_same, ?_, hlt, ?_, zs, ?_, hl3⟩
                    · have hne : a ≠ Dd := fun e => by
                        subst e
                        obtain ⟨o, e, _⟩ := S1.hid _ q
                        rw [hD] at e
                        cases e
                      rw [upd_ne hne, tt.hk a (t2.hid a q)]
                      exact t2.hk a q
                    · intro a q
                      by_cases ha : a = Dd
                      · subst ha; exact ⟨_, upd_same, True.intro⟩
                      · rw [upd_ne ha]; exact S5.hid a q
                    · intro l a ds e1 e2
                      obtain ⟨us, k1, k2⟩ := S5.own l a ds e1 e2
                      have hne : a ≠ Dd := fun e => S5.dis _ hd4 (by rw [← e]; exact List.mem_of_getElem? e1)
                      exact ⟨us, by rw [upd_ne hne]; exact k1, by rw [hm]; exact k2⟩
                    · rw [hm]
                      exact (Reps.mono tt.pre tt.fz acc xs rx).append ⟨v, [], rfl, r5, rfl⟩
                    · rw [List.length_append, List.length_singleton]; omega
                    · rw [hys, List.append_assoc]; rfl
                  · cases hl2
                · cases hl2
              · rename_i s3 hft
                refine ht ws2 H3 s2 σ2 ρ1 _ _ S3 N2 hft True.intro fun d0 s0 e0 ws3 H4 t4 S4 => ?_
                cases e0
                rw [if_neg Bool.false_ne_true]
                have tt := t3.trans t4
                exact ⟨acc, s3, xs, ws3, tt.hid _ hd, ⟨t2.pre.trans tt.pre, fun a q => tt.hid a (t2.hid a q), fun a o q => tt.fz a o (t2.fz a o q), fun a q => (tt.hk a (t2.hid a q)).trans (t2.hk a q)⟩, S4, (tt.hk Dd hd).trans hDd, Reps.mono tt.pre tt.fz acc xs rx, hlt, by omega, rest, hys, hl2⟩
              · cases hl2
            · cases hl2
          · cases hl2
        · have e : i = z.1.length := by omega
          subst e
          rw [List.drop_length] at hl2
          unfold lcL at hl2
          split at hl2
          · rename_i hck
            cases hl2
            refine .inl ⟨wk.stop ws2 H2 _ t2.q S2 hck, ?_⟩
            -- the new list is frozen from now on
            have hdo : Dd ∉ ws2.own := S2.dis _ hd
            let ws3 : Ws := ⟨ws2.own, ws2.hid.filter fun a => decide (a ≠ Dd)⟩
            have hin : ∀ a, a ∈ ws3.hid → a ∈ ws2.hid ∧ a ≠ Dd := fun a q => by
              obtain ⟨q1, q2⟩ := List.mem_filter.mp q
              exact ⟨q1, of_decide_eq_true q2⟩
            have hmono : ∀ a o, mask ws2 H2 a = some o → mask ws3 H2 a = some o := fun a o q => by
              have nt := mask_nt q
              obtain ⟨n, q⟩ := mask_some q
              exact mask_in (ws := ws3) ⟨n.1, fun w => n.2 (hin a w).1⟩ q nt
            have hDn : ∀ a ∈ ws1.hid, a ≠ Dd := fun a q e => by
              subst e
              obtain ⟨o, e, _⟩ := S1.hid _ q
              rw [hD] at e
              cases e
            refine q _ _ rfl (.ref Dd) ws3 H2 (t1.trans ⟨t2.pre, fun a w => List.mem_filter.mpr ⟨t2.hid a w, decide_eq_true (hDn a w)⟩, fun a o w => hmono a o (t2.fz a o w), t2.hk⟩) ⟨S2.nd, S2.len, fun a w => S2.dis a (hin a w).1, fun a w => S2.hid a (hin a w).1, fun l a ds e1 e2 => ?_, S2.tab⟩ ⟨Dd, xs, rfl, ?_, ?_⟩
            · obtain ⟨us, k1, k2⟩ := S2.own l a ds e1 e2
              exact ⟨us, k1, SoRel.mono (ws := ws2) (ws' := ws3) (List.prefix_refl _) hmono k2⟩
            · exact mask_in (ws := ws3) ⟨hdo, fun w => (hin _ w).2 rfl⟩ hDd rfl
            · rw [hys, List.append_nil]
              exact Reps.mono (ws := ws2) (ws' := ws3) (List.prefix_refl _) hmono acc xs rx
          · cases hl2
    · cases h
  · cases h
/-! ### one reading for all of a block's contexts -/
theorem unify_E {ι : Type} {Y : ι → Cx} {C : Cn} {e : Expr} {f : M D} (h : ∀ p, DE (Y p) C e f) : ∃ te, (∀ p, PE (Y p) e te) ∧ EvS C te f := by
  have hT := fun p => Classical.choose_spec (h p).ex
  exact ⟨fun σ H Q => ∀ p, Classical.choose (h p).ex σ H Q, fun p => ⟨fun pins s σ H Q I hw => (hT p).1.run pins s σ H Q I (hw p)⟩, fun ws H s σ ρ R Q S N h1 xx q p => (hT p).2 ws H s σ ρ R Q S N h1 xx q⟩
theorem unify_T {ι : Type} {Y : ι → Cx} {C : Cn} {es : List Expr} {f : M Bool} (h : ∀ p, DTs (Y p) C es f) : ∃ te, (∀ p, PTs (Y p) es te) ∧ EvT C te f := by
  have hT := fun p => Classical.choose_spec (h p).ex
  exact ⟨fun σ H Q => ∀ p, Classical.choose (h p).ex σ H Q, fun p => ⟨fun pins s σ H Q I hw => (hT p).1.run pins s σ H Q I (hw p)⟩, fun ws H s σ ρ R Q S N h1 xx q p => (hT p).2 ws H s σ ρ R Q S N h1 xx q⟩
def GOk (C : Cn) (t : TG) (g : D → Rho → Option Rho) (is : List Nat) : Prop := ∀ ws H σ ρ d v ρ' Q, EnvOk C.T C.x ws H σ ρ → Rep C.T ws (mask ws H) d v → g d ρ = some ρ' → (∀ σ', EnvOk C.T C.x ws H σ' ρ' → (∀ vs, (∀ i ∈ is, i ∈ vs) → L2.wipe σ' vs = L2.wipe σ vs) → Q σ' H) → t v σ H Q
theorem unify_G {ι : Type} {Y : ι → Cx} {C : Cn} {e : Expr} {g : D → Rho → Option Rho} {is : List Nat} (h : ∀ p, DG (Y p) C e g is) : ∃ t, (∀ p, PG (Y p) e t) ∧ GOk C t g is := by
  have h' : ∀ p, ∃ t, PG (Y p) e t ∧ GOk C t g is := fun p => (h p).ex
  have hT := fun p => Classical.choose_spec (h' p)
  exact ⟨fun v σ H Q => ∀ p, Classical.choose (h' p) v σ H Q, fun p => ⟨fun pins s σ H v u Q I r hw => (hT p).1.run pins s σ H v u Q I r (hw p)⟩, fun ws H σ ρ d v ρ' Q N r h1 q p => (hT p).2 ws H σ ρ d v ρ' Q N r h1 q⟩
structure Blk where
  s : Shared
  H : Hp
  C : Addr
  cl : List (Str × Addr)
  fp : List Addr
abbrev Blk.cx (X : Cx) (scope : Scope) (b : Blk) : Cx := X.blk b.s b.H scope (compEnvC scope b.cl b.C X.env) b.fp
section
variable {X : Cx} {C : Cn} {elt tg iter : Expr} {ifs : List Expr} {scope : Scope} {own : List (Str × Nat)} {pos spos py : Pos} {fi : M Src} {g : D → Rho → Option Rho} {ft : M Bool} {fe : M D} {is : List Nat}
theorem nsl_none {l : List Nat} : ∀ i ∈ l, nsl none i := fun _ _ => True.intro
theorem de_lc (hc : X.calm = true) (hN : X.N.Nodup) (hi : DI X C tg iter fi) (ok : BlkOk X.N X.env.scope scope own) (hv : ∀ i ∈ is, i ∈ own.map (·.2))
    (hg : ∀ b : Blk, DG (b.cx X scope) C.in0 tg g is) (ht : ∀ b : Blk, DTs (b.cx X scope) C.in0 ifs ft) (he : ∀ b : Blk, DE (b.cx X scope) C.in0 elt fe)
    (hvx : ∀ i ∈ own.map (·.2), nsl C.x i := by exact nsl_none)
    (hs : ∀ x, foldedSetIterable iter X.env x = pure x := by intro _; rfl) : DE X C (.ListComp elt [⟨tg, iter, ifs, 0⟩] scope pos) (fLc fi g ft fe (own.map (·.2))) :=
  let ⟨_, pi, ei⟩ := hi.ex
  let ⟨_, pg, eg⟩ := unify_G (C := C.in0) (Y := fun b : Blk => b.cx X scope) hg
  let ⟨_, pt, et⟩ := unify_T (C := C.in0) (Y := fun b : Blk => b.cx X scope) ht
  let ⟨_, pe, ee⟩ := unify_E (C := C.in0) (Y := fun b : Blk => b.cx X scope) he
  ⟨_, pe_lc hc hN pi ok (fun s H C cl fp => pg ⟨s, H, C, cl, fp⟩) (fun s H C cl fp => pt ⟨s, H, C, cl, fp⟩) (fun s H C cl fp => pe ⟨s, H, C, cl, fp⟩) hs, ev_lc ei eg hv hvx et ee⟩

end
end
end VM
set_option Elab.async false
set_option maxRecDepth 100000
set_option maxHeartbeats 4000000
set_option linter.all false
set_option autoImplicit false
namespace VM
open PySem L2
noncomputable section

/-! ### statements -/
inductive Out where
  | nx (ρ : Rho) (s : Sto) | rt (d : D) (s : Sto) | bk (ρ : Rho) (s : Sto) | ct (ρ : Rho) (s : Sto) | ex (e : Exn) (ρ : Rho) (s : Sto)
abbrev MS := Rho → Sto → Option Out
def EndsOk (C : Cn) (ws : Ws) (H : Hp) (E : Ends) : Out → Prop
  | .nx ρ s => ∀ σ ws' H', Stp ws H ws' H' → Sta C.T ws' H' s → EnvOk C.T C.x ws' H' σ ρ → E.nx σ H'
  | .rt d s => ∀ v ws' H', Stp ws H ws' H' → Sta C.T ws' H' s → Rep C.T ws' (mask ws' H') d v → E.rt v H'
  | .bk ρ s => ∀ σ ws' H', Stp ws H ws' H' → Sta C.T ws' H' s → EnvOk C.T C.x ws' H' σ ρ → E.bk σ H'
  | .ct ρ s => ∀ σ ws' H', Stp ws H ws' H' → Sta C.T ws' H' s → EnvOk C.T C.x ws' H' σ ρ → E.ct σ H'
  | .ex e ρ s => ∀ σ cls dx ws' H', Stp ws H ws' H' → Sta C.T ws' H' s → EnvOk C.T C.x ws' H' σ ρ → ExRep C.T ws' H' e cls dx → C.W cls dx σ H'
theorem EndsOk.stp {C : Cn} {ws ws1 : Ws} {H H1 : Hp} {E : Ends} {o : Out} (t : Stp ws H ws1 H1) (h : EndsOk C ws H E o) : EndsOk C ws1 H1 E o := by
  cases o with
  | nx ρ s => exact fun σ ws' H' t' => h σ ws' H' (t.trans t')
  | rt d s => exact fun v ws' H' t' => h v ws' H' (t.trans t')
  | bk ρ s => exact fun σ ws' H' t' => h σ ws' H' (t.trans t')
  | ct ρ s => exact fun σ ws' H' t' => h σ ws' H' (t.trans t')
  | ex e ρ s => exact fun σ cls dx ws' H' t' => h σ cls dx ws' H' (t.trans t')
def EvSt (C : Cn) (t : TS) (f : MS) : Prop := ∀ (ws : Ws) (H : Hp) (s : Sto) (σ : L2.St) (ρ : Rho) (o : Out) (E : Ends), Sta C.T ws H s → EnvOk C.T C.x ws H σ ρ → f ρ s = some o → EndsOk C ws H E o → t E σ H
structure DS (X : Cx) (C : Cn) (st : Stmt) (f : MS) : Prop where
  ex : ∃ t, PS X st t ∧ EvSt C t f
structure DSs (X : Cx) (C : Cn) (st : List Stmt) (f : MS) : Prop where
  ex : ∃ t, PSs X st t ∧ EvSt C t f
def fNx : MS := fun ρ s => some (.nx ρ s)
def fSeq (f g : MS) : MS := fun ρ s => match f ρ s with
  | some (.nx ρ1 s1) => g ρ1 s1
  | r => r
/-- behind a value -/
def bndS {α : Type} (f : M α) (k : α → MS) : MS := fun ρ s => match f ρ s with
  | some (.ok x s1) => k x ρ s1
  | some (.ex e s1) => some (.ex e ρ s1)
  | none => none
section
variable {C : Cn} {ws : Ws} {H : Hp} {s : Sto} {σ : L2.St} {ρ : Rho} {o : Out} {E : Ends}
theorem xok_of {α : Type} (S : EnvOk C.T C.x ws H σ ρ) {e : Exn} {s1 : Sto} (q : EndsOk C ws H E (.ex e ρ s1)) : XOk (α := α) C ws H σ (.ex e s1) := fun cls dx ws' H' t S' r => q σ cls dx ws' H' t S' (S.stp t) r
theorem EvS.st {te : TE} {f : M D} {k : D → MS} {Q : VK} (ea : EvS C te f) (S : Sta C.T ws H s) (N : EnvOk C.T C.x ws H σ ρ) (h : bndS f k ρ s = some o) (x : EndsOk C ws H E o)
    (q : ∀ d s1, k d ρ s1 = some o → ∀ v ws1 H1, Stp ws H ws1 H1 → Sta C.T ws1 H1 s1 → Rep C.T ws1 (mask ws1 H1) d v → Q v H1) : te σ H Q := by
  unfold bndS at h
  split at h
  · rename_i d s1 e
    exact ea ws H s σ ρ _ Q S N e True.intro fun d' s' hd => by cases hd; exact q d s1 h
  · rename_i e s1 he
    cases h
    exact ea ws H s σ ρ _ Q S N he (xok_of N x) fun d' s' hd => nomatch hd
  · cases h
theorem EvT.st {tt : TT} {f : M Bool} {k : Bool → MS} {Q : Bool → Hp → Prop} (ea : EvT C tt f) (S : Sta C.T ws H s) (N : EnvOk C.T C.x ws H σ ρ) (h : bndS f k ρ s = some o) (x : EndsOk C ws H E o)
    (q : ∀ d s1, k d ρ s1 = some o → ∀ ws1 H1, Stp ws H ws1 H1 → Sta C.T ws1 H1 s1 → Q d H1) : tt σ H Q := by
  unfold bndS at h
  split at h
  · rename_i d s1 e
    exact ea ws H s σ ρ _ Q S N e True.intro fun d' s' hd => by cases hd; exact q d s1 h
  · rename_i e s1 he
    cases h
    exact ea ws H s σ ρ _ Q S N he (xok_of N x) fun d' s' hd => nomatch hd
  · cases h
theorem EvA.st {ta : TA} {f : M (List D)} {k : List D → MS} {Q : List V → Hp → Prop} (ea : EvA C ta f) (S : Sta C.T ws H s) (N : EnvOk C.T C.x ws H σ ρ) (h : bndS f k ρ s = some o) (x : EndsOk C ws H E o)
    (q : ∀ d s1, k d ρ s1 = some o → ∀ v ws1 H1, Stp ws H ws1 H1 → Sta C.T ws1 H1 s1 → Reps C.T ws1 (mask ws1 H1) d v → Q v H1) : ta σ H Q := by
  unfold bndS at h
  split at h
  · rename_i d s1 e
    exact ea ws H s σ ρ _ Q S N e True.intro fun d' s' hd => by cases hd; exact q d s1 h
  · rename_i e s1 he
    cases h
    exact ea ws H s σ ρ _ Q S N he (xok_of N x) fun d' s' hd => nomatch hd
  · cases h
theorem EvI.st {wi : TI} {f : M Src} {k : Src → MS} {R : It → Hp → Prop} (ea : EvI C wi f) (S : Sta C.T ws H s) (N : EnvOk C.T C.x ws H σ ρ) (h : bndS f k ρ s = some o) (x : EndsOk C ws H E o)
    (q : ∀ d s1, k d ρ s1 = some o → ∀ J ws1 H1, Stp ws H ws1 H1 → Sta C.T ws1 H1 s1 → Wk C.T J ws1 H1 d → R J H1) : wi σ H R := by
  unfold bndS at h
  split at h
  · rename_i d s1 e
    exact ea ws H s σ ρ _ R S N e True.intro fun d' s' hd => by cases hd; exact q d s1 h
  · rename_i e s1 he
    cases h
    exact ea ws H s σ ρ _ R S N he (xok_of N x) fun d' s' hd => nomatch hd
  · cases h
end
section
variable {X : Cx} {C : Cn} {st : Stmt} {sts a b body : List Stmt} {f f1 f2 : MS} {e c : Expr} {fv : M D} {t : M Bool} {pos spos py : Pos} {tg iter elt : Expr} {is : List Nat} {g : D → Rho → Option Rho} {ifs : List Expr} {scope : Scope} {own : List (Str × Nat)} {fi : M Src} {ft : M Bool} {fe : M D}
theorem dss_nil : DSs X C [] fNx := ⟨_, pss_nil, fun ws H s σ ρ o E S N h q => by
  cases h
  exact q σ ws H (Stp.refl _ _) S N⟩
theorem dss_cons (h1 : DS X C st f1) (h2 : DSs X C sts f2) : DSs X C (st :: sts) (fSeq f1 f2) :=
  let ⟨_, pa, ea⟩ := h1.ex
  let ⟨_, pb, eb⟩ := h2.ex
  ⟨_, pss_cons pa pb, fun ws H s σ ρ o E S N h q => by
    unfold fSeq at h
    split at h
    · rename_i ρ1 s1 h3
      refine ea ws H s σ ρ (.nx ρ1 s1) _ S N h3 fun σ1 ws1 H1 t1 S1 N1 => ?_
      exact eb ws1 H1 s1 σ1 ρ1 o E S1 N1 h (q.stp t1)
    · rename_i r hr
      cases o with
      | nx ρ1 s1 => exact absurd h (hr _ _)
      | rt d s1 => exact ea ws H s σ ρ _ _ S N h q
      | bk ρ1 s1 => exact ea ws H s σ ρ _ _ S N h q
      | ct ρ1 s1 => exact ea ws H s σ ρ _ _ S N h q
      | ex e ρ1 s1 => exact ea ws H s σ ρ _ _ S N h q⟩
theorem dss_one (h1 : DS X C st f1) : DSs X C [st] f1 := let ⟨_, pa, ea⟩ := h1.ex; ⟨_, pss_one pa, ea⟩
theorem ds_pass : DS X C (.Pass pos) fNx := ⟨_, ps_pass, fun ws H s σ ρ o E S N h q => by
  cases h
  exact q σ ws H (Stp.refl _ _) S N⟩
def fBk : MS := fun ρ s => some (.bk ρ s)
def fCt : MS := fun ρ s => some (.ct ρ s)
theorem ds_break : DS X C (.Break pos) fBk := ⟨_, ps_break, fun ws H s σ ρ o E S N h q => by
  cases h
  exact q σ ws H (Stp.refl _ _) S N⟩
theorem ds_continue : DS X C (.Continue pos) fCt := ⟨_, ps_continue, fun ws H s σ ρ o E S N h q => by
  cases h
  exact q σ ws H (Stp.refl _ _) S N⟩
def fRet (f : M D) : MS := bndS f fun x _ s => some (.rt x s)
theorem ds_ret (h : DE X C e fv) : DS X C (.Return (some e) pos) (fRet fv) :=
  let ⟨_, pa, ea⟩ := h.ex
  ⟨_, ps_ret pa, fun ws H s σ ρ o E S N h q => (ea.st) S N h q fun x s1 h v ws1 H1 t1 S1 r1 => by
    cases h
    exact q v ws1 H1 t1 S1 r1⟩
def fRetN : MS := fun _ s => some (.rt .non s)
theorem ds_retN : DS X C (.Return none pos) fRetN := ⟨_, ps_retN, fun ws H s σ ρ o E S N h q => by
  cases h
  exact q _ ws H (Stp.refl _ _) S rfl⟩
def fIfS (t : M Bool) (f1 f2 : MS) : MS := bndS t fun b => if b = true then f1 else f2
theorem ds_if (hc : DT X C c t) (ha : DSs X C a f1) (hb : DSs X C b f2) : DS X C (.If c a b pos) (fIfS t f1 f2) :=
  let ⟨_, pc, ec⟩ := hc.ex
  let ⟨_, pa, ea⟩ := ha.ex
  let ⟨_, pb, eb⟩ := hb.ex
  ⟨_, ps_if pc pa pb, fun ws H s σ ρ o E S N h q => (ec.st) S N h q fun x s1 h ws1 H1 t1 S1 => by
    split at h
    · rename_i hx
      rw [if_pos hx]
      exact ea ws1 H1 s1 σ ρ o E S1 (N.stp t1) h (q.stp t1)
    · rename_i hx
      rw [if_neg hx]
      exact eb ws1 H1 s1 σ ρ o E S1 (N.stp t1) h (q.stp t1)⟩
/-- an expression alone -/
def fDrop (f : M D) : MS := bndS f fun _ ρ s => some (.nx ρ s)
theorem ds_expr (h : DE X C e fv) (hs : swapsWith e none pos.line X.env = pure false := by rfl) : DS X C (.Expr e pos) (fDrop fv) :=
  let ⟨_, pa, ea⟩ := h.ex
  ⟨_, ps_expr pa hs, fun ws H s σ ρ o E S N h q => (ea.st) S N h q fun x s1 h v ws1 H1 t1 S1 r1 => by
    cases h
    exact q σ ws1 H1 t1 S1 (N.stp t1)⟩
/-- target = value -/
def fAsg (f : M D) (g : D → Rho → Option Rho) : MS := bndS f fun x ρ s => (g x ρ).map fun ρ1 => .nx ρ1 s
theorem ev_asg {te : TE} {tg : TG} (ea : EvS C te fv) (eg : GOk C tg g is) : EvSt C (tAsg te tg) (fAsg fv g) := fun ws H s σ ρ o E S N h q => (ea.st) S N h q fun x s1 h v ws1 H1 t1 S1 r1 => by
  obtain ⟨ρ1, h2, rfl⟩ := Option.map_eq_some_iff.mp h
  exact eg ws1 H1 σ ρ x v ρ1 _ (N.stp t1) r1 h2 fun σ1 N1 _ => q σ1 ws1 H1 t1 S1 N1
theorem gok_nm {i : Nat} (hns : nsl C.x i) : GOk C (fun v σ H Q => Q (σ.set i (some v)) H) (gNm i) [i] := fun ws H σ ρ d v ρ' Q N r h q => by
  cases h
  exact q _ (N.set r hns) fun vs hv => wipe_in (hv i (List.mem_singleton.mpr rfl))
theorem ds_set (i : Nat) {x : Str} {pos' : Pos} (hN : X.N.Nodup) (h : DE X C e fv) (hi : X.N[i]? = some x := by rfl) (hx : Loc X.env.scope x := by first | exact Or.inl rfl | exact Or.inr rfl) (hs : swapsWith e (some (.Name x pos')) pos.line X.env = pure false := by rfl)
    (hf : X.fn x = true ∨ X.env.scope.names.lookup x = some .local := by first | exact .inl rfl | exact .inr rfl | assumption) (hns : nsl C.x i := by first | exact True.intro | (show (_ : Nat) ≠ _; decide)) : DS X C (.Assign [.Name x pos'] e pos) (fAsg fv (gNm i)) :=
  let ⟨_, pa, ea⟩ := h.ex
  ⟨_, ps_set hN hi hx pa hs hf, ev_asg (is := [i]) ea (gok_nm hns)⟩
theorem ds_asg {tg : Expr} (hg : DG X C tg g is) (h : DE X C e fv) (hs : swapsWithSole [tg] e pos.line X.env = pure false := by rfl) (hw : swappedStores [tg] e X.env = pure none := by rfl)
    (h1 : (assignEach [tg] X.env).map (·.2) = [assign tg X.env] := by rfl) : DS X C (.Assign [tg] e pos) (fAsg fv g) :=
  let ⟨_, pa, ea⟩ := h.ex
  let ⟨_, pg, eg⟩ := hg.ex
  ⟨_, ps_asg pa pg hs hw h1, ev_asg ea eg⟩
/-- name = [..] -/
theorem ds_setLc (j : Nat) {y : Str} (hc : X.calm = true) (hN : X.N.Nodup) (hi : DI X C tg iter fi) (ok : BlkOk X.N X.env.scope scope own) (hv : ∀ i ∈ is, i ∈ own.map (·.2))
    (hg : ∀ b : Blk, DG (b.cx X scope) C.in0 tg g is) (ht : ∀ b : Blk, DTs (b.cx X scope) C.in0 ifs ft) (he : ∀ b : Blk, DE (b.cx X scope) C.in0 elt fe)
    (hsw : swapsWith (.ListComp elt [⟨tg, iter, ifs, 0⟩] scope pos) (some (.Name y py)) spos.line X.env = pure true)
    (hvx : ∀ i ∈ own.map (·.2), nsl C.x i := by exact nsl_none) (hns : nsl C.x j := by first | exact True.intro | (show (_ : Nat) ≠ _; decide))
    (hy : X.N[j]? = some y := by rfl) (hyl : X.env.scope.names.lookup y = some .local := by rfl)
    (hs : ∀ x, foldedSetIterable iter X.env x = pure x := by intro _; rfl) : DS X C (.Assign [.Name y py] (.ListComp elt [⟨tg, iter, ifs, 0⟩] scope pos) spos) (fAsg (fLc fi g ft fe (own.map (·.2))) (gNm j)) :=
  let ⟨_, pi, ei⟩ := hi.ex
  let ⟨_, pg, eg⟩ := unify_G (C := C.in0) (Y := fun b : Blk => b.cx X scope) hg
  let ⟨_, pt, et⟩ := unify_T (C := C.in0) (Y := fun b : Blk => b.cx X scope) ht
  let ⟨_, pe, ee⟩ := unify_E (C := C.in0) (Y := fun b : Blk => b.cx X scope) he
  ⟨_, ps_setLc hc hN hy hyl hsw pi ok (fun s H C cl fp => pg ⟨s, H, C, cl, fp⟩) (fun s H C cl fp => pt ⟨s, H, C, cl, fp⟩) (fun s H C cl fp => pe ⟨s, H, C, cl, fp⟩) hs,
    ev_asg (is := [j]) (ev_lc ei eg hv hvx et ee) (gok_nm hns)⟩
/-- a, b = x, y -/
def fPar (i j : Nat) (fa : M (List D)) : MS := bndS fa fun xs ρ s => match xs with
  | [x, y] => some (.nx ((ρ.set i (some x)).set j (some y)) s)
  | _ => none
theorem ds_par (i j : Nat) {x y : Str} {a b : Expr} {fa : M (List D)} {px py pt : Pos} {kt k2 pt2} (hc : X.calm = true) (hN : X.N.Nodup) (ha : DA X C [a, b] fa) (hi : X.N[i]? = some x := by rfl) (hj : X.N[j]? = some y := by rfl) (hij : i ≠ j := by decide)
    (hx : X.env.scope.names.lookup x = some .local := by rfl) (hy : X.env.scope.names.lookup y = some .local := by rfl)
    (hw : swappedStores [.Tuple [.Name x px, .Name y py] kt pt] (.Tuple [a, b] k2 pt2) X.env = pure (some [x, y]) := by rfl)
    (hs : swapsWithSole [.Tuple [.Name x px, .Name y py] kt pt] (.Tuple [a, b] k2 pt2) pos.line X.env = pure false := by rfl)
    (hni : nsl C.x i := by first | exact True.intro | (show (_ : Nat) ≠ _; decide)) (hnj : nsl C.x j := by first | exact True.intro | (show (_ : Nat) ≠ _; decide)) :
    DS X C (.Assign [.Tuple [.Name x px, .Name y py] kt pt] (.Tuple [a, b] k2 pt2) pos) (fPar i j fa) :=
  let ⟨_, pa, ea⟩ := ha.ex
  ⟨_, ps_par hc hN hi hj hij hx hy pa hw hs, fun ws H s σ ρ o E S N h q => (ea.st) S N h q fun xs s1 h vs ws1 H1 t1 S1 r1 => by
    split at h
    · cases h
      obtain ⟨v, r, rfl, k1, w, r', rfl, k2, rfl⟩ := r1
      exact ⟨v, w, rfl, q _ ws1 H1 t1 S1 (((N.stp t1).set k1 hni).set k2 hnj)⟩
    · cases h⟩
/-- name op= e -/
def fAug (i : Nat) (gg : G2) (f : M D) : MS := fun ρ s => match ρ[i]? with
  | some (some x) => bndS f (fun y ρ s => (gg s x y).map fun z => .nx (ρ.set i (some z)) s) ρ s
  | _ => none
theorem ds_aug (i : Nat) {x : Str} {op : Operator} {r : R2} {gg : G2} {pos' : Pos} (hN : X.N.Nodup) (hr : OpR X (inplaceOp op) r) (ho : OpS C.T r gg) (h : DE X C e fv) (hi : X.N[i]? = some x := by rfl) (hx : Loc X.env.scope x := by first | exact Or.inl rfl | exact Or.inr rfl)
    (hf : X.fn x = true ∨ X.env.scope.names.lookup x = some .local := by first | exact .inl rfl | exact .inr rfl | assumption) (hns : nsl C.x i := by first | exact True.intro | (show (_ : Nat) ≠ _; decide)) : DS X C (.AugAssign (.Name x pos') op e pos) (fAug i gg fv) :=
  let ⟨_, pa, ea⟩ := h.ex
  ⟨_, ps_aug (ti := r) hN hi hx pa (fun pins s σ H x y v u Q I r1 r2 h => hr pins s σ H x y v u Q I r1 r2 h) hf, fun ws H s σ ρ o E S N h q => by
    unfold fAug at h
    split at h
    · rename_i d hd
      obtain ⟨v, e1, r1⟩ := N.at_ i _ hd
      refine ⟨v, e1, (ea.st) S N h q fun y s1 h u ws1 H1 t1 S1 r2 => ?_⟩
      obtain ⟨z, h2, rfl⟩ := Option.map_eq_some_iff.mp h
      exact ho ws1 H1 s1 _ y z v u _ S1 (r1.stp t1) r2 h2 fun w ws2 H2 t2 S2 r3 => q _ ws2 H2 (t1.trans t2) S2 (((N.stp t1).stp t2).set r3 hns)
    · cases h⟩
/-- while, at most so many turns -/
def fWhile (ft : M Bool) (fb : MS) : Nat → MS
  | 0 => fun _ _ => none
  | n + 1 => fun ρ s => match ft ρ s with
    | some (.ok true s1) => match fb ρ s1 with
      | some (.nx ρ2 s2) => fWhile ft fb n ρ2 s2
      | some (.ct ρ2 s2) => fWhile ft fb n ρ2 s2
      | some (.bk ρ2 s2) => some (.nx ρ2 s2)
      | some (.rt d s2) => some (.rt d s2)
      | some (.ex e ρ2 s2) => some (.ex e ρ2 s2)
      | none => none
    | some (.ok false s1) => some (.nx ρ s1)
    | some (.ex e s1) => some (.ex e ρ s1)
    | none => none
theorem ds_while (n : Nat) {fb : MS} (hp : PassesOwn (model X.prog X.w) X.A X.env X.xe) (hc : DT X C c t) (hb : DSs X C body fb) : DS X C (.While c body [] pos) (fWhile t fb n) :=
  let ⟨_, pc, ec⟩ := hc.ex
  let ⟨_, pb, eb⟩ := hb.ex
  ⟨_, ps_while hp pc pb, fun ws H s σ ρ o E S N h q => by
    refine ⟨fun m σ1 H1 => ∃ ws1 ρ1 s1, Stp ws H ws1 H1 ∧ Sta C.T ws1 H1 s1 ∧ EnvOk C.T C.x ws1 H1 σ1 ρ1 ∧ fWhile t fb m ρ1 s1 = some o, ⟨n, ws, ρ, s, Stp.refl _ _, S, N, h⟩, ?_⟩
    rintro m σ1 H1 ⟨ws1, ρ1, s1, t1, S1, N1, h1⟩
    cases m with
    | zero => cases h1
    | succ m =>
      unfold fWhile at h1
      split at h1
      · rename_i s2 h2
        refine ec ws1 H1 s1 σ1 ρ1 _ _ S1 N1 h2 True.intro fun d0 s0 e0 ws2 H2 t2 S2 => ?_
        cases e0
        rw [if_pos rfl]
        refine ⟨fun σ' H' => ∃ ws1 ρ1 s1, Stp ws H ws1 H' ∧ Sta C.T ws1 H' s1 ∧ EnvOk C.T C.x ws1 H' σ' ρ1 ∧ fWhile t fb m ρ1 s1 = some o, fun σ' H' z => ⟨m, Nat.lt_succ_self _, z⟩, ?_⟩
        have t12 := t1.trans t2
        split at h1
        · rename_i ρ3 s3 h3
          exact eb ws2 H2 _ σ1 ρ1 _ _ S2 (N1.stp t2) h3 fun σ' ws' H' t' S' N' => ⟨ws', ρ3, s3, t12.trans t', S', N', h1⟩
        · rename_i ρ3 s3 h3
          exact eb ws2 H2 _ σ1 ρ1 _ _ S2 (N1.stp t2) h3 fun σ' ws' H' t' S' N' => ⟨ws', ρ3, s3, t12.trans t', S', N', h1⟩
        · rename_i ρ3 s3 h3
          cases h1
          exact eb ws2 H2 _ σ1 ρ1 _ _ S2 (N1.stp t2) h3 (q.stp t12)
        · rename_i d s3 h3
          cases h1
          exact eb ws2 H2 _ σ1 ρ1 _ _ S2 (N1.stp t2) h3 (q.stp t12)
        · rename_i e ρ3 s3 h3
          cases h1
          exact eb ws2 H2 _ σ1 ρ1 _ _ S2 (N1.stp t2) h3 (q.stp t12)
        · cases h1
      · rename_i s2 h2
        cases h1
        refine ec ws1 H1 s1 σ1 ρ1 _ _ S1 N1 h2 True.intro fun d0 s0 e0 ws2 H2 t2 S2 => ?_
        cases e0
        rw [if_neg Bool.false_ne_true]
        exact q σ1 ws2 H2 (t1.trans t2) S2 (N1.stp t2)
      · rename_i e s2 h2
        cases h1
        exact ec ws1 H1 s1 σ1 ρ1 _ _ S1 N1 h2 (xok_of N1 (q.stp t1)) fun d0 s0 e0 => nomatch e0
      · cases h1⟩
/-- for -/
def forL (g : D → Rho → Option Rho) (fb : MS) (ck : Option (Nat × List D)) : List D → MS
  | [] => fun ρ s => if chk ck s = true then some (.nx ρ s) else none
  | d :: ds => fun ρ s => if chk ck s = true then match g d ρ with
    | some ρ1 => match fb ρ1 s with
      | some (.nx ρ2 s2) => forL g fb ck ds ρ2 s2
      | some (.ct ρ2 s2) => forL g fb ck ds ρ2 s2
      | some (.bk ρ2 s2) => some (.nx ρ2 s2)
      | some (.rt d s2) => some (.rt d s2)
      | some (.ex e ρ2 s2) => some (.ex e ρ2 s2)
      | none => none
    | none => none
    else none
def fFor (fi : M Src) (g : D → Rho → Option Rho) (fb : MS) : MS := bndS fi fun z => forL g fb z.2 z.1
theorem ds_for {fb : MS} (hp : PassesOwn (model X.prog X.w) X.A X.env X.xe) (hc : X.calm = true) (hi : DI X C tg iter fi) (hg : DG X C tg g is) (hb : DSs X C body fb) (hs : ∀ x, foldedSetIterable iter X.env x = pure x := by intro _; rfl) : DS X C (.For tg iter body [] pos) (fFor fi g fb) :=
  let ⟨_, pi, ei⟩ := hi.ex
  let ⟨_, pg, eg⟩ := hg.ex
  let ⟨_, pb, eb⟩ := hb.ex
  ⟨_, ps_for hp hc pi pg pb hs, fun ws H s σ ρ o E S N h q => (ei.st) S N h q fun z s0 h J ws0 H0 t0 S0 wk => by
    refine ⟨fun i m σ1 H1 => m = z.1.length - i ∧ i ≤ z.1.length ∧ ∃ ws1 ρ1 s1, Stp ws0 H0 ws1 H1 ∧ Sta C.T ws1 H1 s1 ∧ EnvOk C.T C.x ws1 H1 σ1 ρ1 ∧ forL g fb z.2 (z.1.drop i) ρ1 s1 = some o, ⟨_, rfl, Nat.zero_le _, ws0, ρ, s0, Stp.refl _ _, S0, N.stp t0, by rw [List.drop_zero]; exact h⟩, ?_⟩
    rintro i m σ1 H1 ⟨rfl, hle, ws1, ρ1, s1, t1, S1, N1, h1⟩
    by_cases hlt : i < z.1.length
    · rw [List.drop_eq_getElem_cons hlt] at h1
      unfold forL at h1
      split at h1
      · rename_i hck
        split at h1
        · rename_i ρ2 hg2
          obtain ⟨go, yl⟩ := wk.step i z.1[i] ws1 H1 s1 t1.q S1 hck (List.getElem?_eq_getElem hlt)
          refine .inr ⟨go, fun σ' H' => ∃ ws1 ρ1 s1, Stp ws0 H0 ws1 H' ∧ Sta C.T ws1 H' s1 ∧ EnvOk C.T C.x ws1 H' σ' ρ1 ∧ forL g fb z.2 (z.1.drop (i + 1)) ρ1 s1 = some o, fun σ' H' w => ⟨_, by omega, rfl, hlt, w⟩, fun x H2 y => ?_⟩
          obtain ⟨t2, S2, r2⟩ := yl x H2 y
          refine eg ws1 H2 σ1 ρ1 _ x ρ2 _ (N1.stp t2) r2 hg2 fun σ2 N2 _ => ?_
          have t12 := t1.trans t2
          split at h1
          · rename_i ρ3 s3 h3
            exact eb ws1 H2 s1 σ2 ρ2 _ _ S2 N2 h3 fun σ' ws' H' t' S' N' => ⟨ws', ρ3, s3, t12.trans t', S', N', h1⟩
          · rename_i ρ3 s3 h3
            exact eb ws1 H2 s1 σ2 ρ2 _ _ S2 N2 h3 fun σ' ws' H' t' S' N' => ⟨ws', ρ3, s3, t12.trans t', S', N', h1⟩
          · rename_i ρ3 s3 h3
            cases h1
            exact eb ws1 H2 s1 σ2 ρ2 _ _ S2 N2 h3 (q.stp (t0.trans t12))
          · rename_i d s3 h3
            cases h1
            exact eb ws1 H2 s1 σ2 ρ2 _ _ S2 N2 h3 (q.stp (t0.trans t12))
          · rename_i e ρ3 s3 h3
            cases h1
            exact eb ws1 H2 s1 σ2 ρ2 _ _ S2 N2 h3 (q.stp (t0.trans t12))
          · cases h1
        · cases h1
      · cases h1
    · have e : i = z.1.length := by omega
      subst e
      rw [List.drop_length] at h1
      unfold forL at h1
      split at h1
      · rename_i hck
        cases h1
        exact .inl ⟨wk.stop ws1 H1 s1 t1.q S1 hck, q σ1 ws1 H1 (t0.trans t1) S1 N1⟩
      · cases h1⟩
/-- o[i] = v, o an owned list -/
def putD (s : Sto) (o i v : D) : Option Sto := match o, i with
  | .own l, .int k => match lstAt s l with
    | some ds => match ixN ds.length k with
      | some j => some (s.set l (.lst (ds.set j v)))
      | none => none
    | none => none
  | _, _ => none
def fSub (fv fo fi : M D) : MS := bndS fv fun v => bndS fo fun o => bndS fi fun i ρ s => (putD s o i v).map fun s1 => .nx ρ s1
theorem ds_sub {o i : Expr} {fo fi : M D} {pos' : Pos} (h : DE X C e fv) (ho : DE X C o fo) (hi : DE X C i fi) (hs : swapsWithSole [.Subscript o i pos'] e pos.line X.env = pure false := by rfl) (hw : swappedStores [.Subscript o i pos'] e X.env = pure none := by rfl)
    (h1 : (assignEach [.Subscript o i pos'] X.env).map (·.2) = [assign (.Subscript o i pos') X.env] := by rfl)
    (ha : ∀ v, assign (.Subscript o i pos') X.env v = (do
      let ov ← holding [v] (eval o X.env)
      let iv ← holding [v, ov] (eval i X.env)
      standAt pos'
      holding [v, ov, iv] (setItem ov iv v)
      release [v, ov, iv] []) := by intro _; rfl) : DS X C (.Assign [.Subscript o i pos'] e pos) (fSub fv fo fi) :=
  let ⟨_, pa, ea⟩ := h.ex
  let ⟨_, po, eo⟩ := ho.ex
  let ⟨_, pi, ei⟩ := hi.ex
  ⟨_, ps_asg pa (pg_sub po pi set_list ha) hs hw h1, fun ws H s σ ρ out E S N h q =>
    (ea.st) S N h q fun v s1 k1 vv ws1 H1 t1 S1 r1 => (eo.st) S1 (N.stp t1) k1 (q.stp t1) fun od s2 k2 ov ws2 H2 t2 S2 r2 => (ei.st) S2 ((N.stp t1).stp t2) k2 ((q.stp t1).stp t2) fun id' s3 k3 iv ws3 H3 t3 S3 r3 => by
    obtain ⟨s4, k4, rfl⟩ := Option.map_eq_some_iff.mp k3
    unfold putD at k4
    split at k4
    · rename_i l k
      split at k4
      · rename_i ds hds
        split at k4
        · rename_i j hj
          cases k4
          obtain ⟨a, ha1, rfl⟩ := r2.stp t3
          cases r3
          obtain ⟨xs, hx, rx⟩ := S3.lst ha1 hds
          have rv := (r1.stp t2).stp t3
          have S4 := S3.put (so := .lst (ds.set j v)) (o := .lst (xs.set j vv)) ha1 (rx.set rv j)
          have t4 : Stp ws3 H3 ws3 (upd H3 a (.lst (xs.set j vv))) := S3.stp_put ha1
          exact ⟨a, xs, k, j, rfl, rfl, hx, by rw [← rx.length]; exact hj, q σ ws3 _ (((t1.trans t2).trans t3).trans t4) S4 ((((N.stp t1).stp t2).stp t3).stp t4)⟩
        · cases k4
      · cases k4
    · cases k4⟩
/-- xs.append(y), xs owned -/
def appD (s : Sto) (o v : D) : Option Sto := match o with
  | .own l => match lstAt s l with
    | some ds => if ds.length < LIM then some (s.set l (.lst (ds ++ [v]))) else none
    | none => none
  | _ => none
def fApp (fo fv : M D) : M D := bnd fo fun o => bnd fv fun v => fun _ s => (appD s o v).map fun s1 => .ok .non s1
theorem own_at {T : Kt} {ws : Ws} {H : Hp} {s : Sto} {l : Nat} {a : Addr} (S : Sta T ws H s) (h : ws.own[l]? = some a) : ∃ o so, s[l]? = some so ∧ H a = some o ∧ SoRel T ws (mask ws H) o so := by
  have hl : l < s.length := by rw [← S.len]; exact (List.getElem?_eq_some_iff.mp h).1
  obtain ⟨o, h1, h2⟩ := S.own l a s[l] h (List.getElem?_eq_getElem hl)
  exact ⟨o, s[l], List.getElem?_eq_getElem hl, h1, h2⟩
/-- an owned list when its method is looked up: it must be a list already there -/
def isOL (s : Sto) : D → Bool
  | .own l => (lstAt s l).isSome
  | _ => false
def fOL (f : M D) : M D := bnd f fun x => got fun s => if isOL s x = true then some x else none
theorem de_append {o v : Expr} {fo fv : M D} {apos : Pos} (ho : DE X C o fo) (hv : DE X C v fv)
    (hbase : attributeBase o "append" X.env (eval o X.env) = eval o X.env := by rfl)
    (hfew : ((backTo pos (starEach [v] X.env)).all (fun x => !x.1) && (backToKw pos (keywordEach [] X.env)).all (fun x => x.1.isSome)
      && decide ([v].length + ([] : List Keyword).length + (if ([] : List Keyword).isEmpty then 0 else 1) < 30)) = true := by rfl)
    (hline : (apos.endLine == pos.line) = true := by rfl) (hs : starEach [v] X.env = (false, eval v X.env) :: starEach [] X.env := by rfl) (hplain : (backTo pos (starEach [] X.env)).any (·.1) = false := by rfl) :
    DE X C (.Call (.Attribute o "append" apos) [v] [] pos) (fApp (fOL fo) fv) :=
  let ⟨_, po, eo⟩ := ho.ex
  let ⟨_, pv', ev'⟩ := hv.ex
  ⟨_, pe_bm PySem.F.plainAttrs_list PySem.F.slot_list_append PySem.F.type_list_append mt_append po (pa_cons pv' pa_nil hs) hbase hfew hline hs hplain, fun ws H s σ ρ R Q S N h xx q => by
    have h' : bnd fo (fun x => bnd (got fun s => if isOL s x = true then some x else none) fun o => bnd fv fun v => fun _ s => (appD s o v).map fun s1 => Res.ok D.non s1) ρ s = some R := by
      rw [← h]
      unfold fApp fOL bnd
      cases fo ρ s with
      | none => rfl
      | some r => cases r <;> rfl
    refine (eo.b) S N h' xx fun od s1 k1 ov ws1 H1 t1 S1 r1 => ?_
    obtain ⟨od', g1, k1⟩ := bnd_got k1
    split at g1
    · rename_i hol
      cases g1
      cases od with
      | own l =>
        obtain ⟨a, ha1, rfl⟩ := r1
        obtain ⟨ds0, hds0⟩ := Option.isSome_iff_exists.mp hol
        obtain ⟨xs0, hx0, _⟩ := S1.lst ha1 hds0
        refine ⟨.inl ⟨rfl, xs0, SqL.of hx0⟩, ?_⟩
        refine (ev'.b) S1 (N.stp t1) k1 (xx.stp t1) fun vd s2 k2 vv ws2 H2 t2 S2 r2 => ?_
        obtain ⟨s3, k3, rfl⟩ := Option.map_eq_some_iff.mp k2
        unfold appD at k3
        dsimp only at k3
        split at k3
        · rename_i ds hds
          split at k3
          · rename_i hlt
            cases k3
            have ha2 := pre_get t2.pre ha1
            obtain ⟨xs, hx, rx⟩ := S2.lst ha2 hds
            have S4 := S2.put (so := .lst (ds ++ [vd])) (o := .lst (xs ++ [vv])) ha2 (Reps.append (ds := ds) (es := [vd]) rx ⟨vv, [], rfl, r2, rfl⟩)
            have t4 : Stp ws2 H2 ws2 (upd H2 a (.lst (xs ++ [vv]))) := S2.stp_put ha2
            exact ⟨a, xs, vv, rfl, rfl, hx, lim_lt (by rw [← rx.length]; exact hlt), q _ _ rfl _ ws2 _ ((t1.trans t2).trans t4) S4 rfl⟩
          · cases k3
        · cases k3
      | _ => exact absurd hol (by simp [isOL])
    · cases g1⟩
end
end
end VM
set_option Elab.async false
set_option maxRecDepth 100000
set_option maxHeartbeats 4000000
set_option linter.all false
set_option autoImplicit false
namespace VM
open PySem L2
noncomputable section

/-! ### a def's value -/
mutual
/-- no owned object of a number from n on -/
def low (n : Nat) : D → Bool
  | .own l => decide (l < n)
  | .lst ds => lows n ds
  | .tup ds => lows n ds
  | .lck ds => lows n ds
  | .ins _ _ ds => lows n ds
  | .dct _ _ ds => lows n ds
  | .lam _ _ _ _ ds => lows n ds
  | _ => true
def lows (n : Nat) : List D → Bool
  | [] => true
  | d :: ds => low n d && lows n ds
end
def lowS (n : Nat) : SO → Bool
  | .lst ds => lows n ds
  | .ins _ _ ds => lows n ds
  | .dct _ _ ds => lows n ds
  | .set _ _ => true
def frz : SO → D
  | .lst ds => .lst ds
  | .ins c ns ds => .ins c ns ds
  | .dct t ks ds => .dct t ks ds
  | .set t ds => .set t ds
abbrev Ws.tk (ws : Ws) (n : Nat) : Ws := ⟨ws.own.take n, ws.hid⟩
theorem mask_take {ws : Ws} {H : Hp} (n : Nat) : ∀ a o, mask ws H a = some o → mask (ws.tk n) H a = some o := fun a o h => by
  have nt := mask_nt h
  obtain ⟨k, h⟩ := mask_some h
  exact mask_in (ws := ws.tk n) ⟨fun z => k.1 (List.mem_of_mem_take z), k.2⟩ h nt
mutual
theorem low_m {T : Kt} {ws : Ws} {M : Hp} {n : Nat} : ∀ (d : D) (v : V), Rep T ws M d v → low n d = true → Rep T (ws.tk n) M d v
  | .non, _, h, _ => h
  | .bl _, _, h, _ => h
  | .int _, _, h, _ => h
  | .str _, _, h, _ => h
  | .fn _, _, h, _ => h
  | .lam _ _ _ us ds, _, ⟨hv, hc, hr⟩, hl => ⟨hv, hc, lows_m ds us hr (by simpa only [low] using hl)⟩
  | .set t ds, _, h, _ => h
  | .lst ds, _, ⟨a, xs, hv, hs, hr⟩, hl => ⟨a, xs, hv, hs, lows_m ds xs hr (by simpa only [low] using hl)⟩
  | .lck ds, _, ⟨a, xs, hv, hs, hr⟩, hl => ⟨a, xs, hv, hs, lows_m ds xs hr (by simpa only [low] using hl)⟩
  | .tup ds, _, ⟨a, xs, hv, hs, hr⟩, hl => ⟨a, xs, hv, hs, lows_m ds xs hr (by simpa only [low] using hl)⟩
  | .ins c ns ds, _, ⟨a, dx, fs, hv, hs, h1, h2, hr⟩, hl => ⟨a, dx, fs, hv, hs, h1, h2, lows_m ds _ hr (by simpa only [low] using hl)⟩
  | .dct t ks ds, _, ⟨a, hv, h⟩, hl => ⟨a, hv, h.elim (fun ⟨t, kvs, h1, h2, h3⟩ => .inl ⟨t, kvs, h1, h2, lows_m ds _ h3 (by simpa only [low] using hl)⟩) fun ⟨t, kvs, h1, h2, h3⟩ => .inr ⟨t, kvs, h1, h2, lows_m ds _ h3 (by simpa only [low] using hl)⟩⟩
  | .own l, _, ⟨a, h, hv⟩, hl => ⟨a, by
      have : l < n := by simpa only [low, decide_eq_true_eq] using hl
      show (ws.own.take n)[l]? = some a
      rw [List.getElem?_take_of_lt this]
      exact h, hv⟩
theorem lows_m {T : Kt} {ws : Ws} {M : Hp} {n : Nat} : ∀ (ds : List D) (vs : List V), Reps T ws M ds vs → lows n ds = true → Reps T (ws.tk n) M ds vs
  | [], _, h, _ => h
  | d :: ds, _, ⟨v, r, hv, h1, h2⟩, hl => by
    have hl' : low n d = true ∧ lows n ds = true := by simpa only [lows, Bool.and_eq_true] using hl
    exact ⟨v, r, hv, low_m d v h1 hl'.1, lows_m ds r h2 hl'.2⟩
end
theorem lowS_m {T : Kt} {ws : Ws} {M : Hp} {n : Nat} {o : HO} {so : SO} (h : SoRel T ws M o so) (hl : lowS n so = true) : SoRel T (ws.tk n) M o so := by
  cases so with
  | lst ds => cases o <;> first | exact h.elim | exact lows_m _ _ h hl
  | ins c ns vs => cases o <;> first | exact h.elim | exact ⟨h.1, h.2.1, h.2.2.1, lows_m _ _ h.2.2.2 hl⟩
  | dct t ks vs => cases o <;> first | exact h.elim | exact ⟨h.1, h.2.1, lows_m _ _ h.2.2 hl⟩
  | set t ds => cases o <;> exact h.elim
theorem low_ok {T : Kt} {ws : Ws} {H : Hp} {n : Nat} (d : D) (v : V) (r : Rep T ws (mask ws H) d v) (h : low n d = true) : Rep T (ws.tk n) (mask (ws.tk n) H) d v :=
  Rep.mono (ws := ws.tk n) (ws' := ws.tk n) (List.prefix_refl _) (mask_take n) d v (low_m d v r h)
theorem lowS_ok {T : Kt} {ws : Ws} {H : Hp} {n : Nat} {o : HO} {so : SO} (h : SoRel T ws (mask ws H) o so) (hl : lowS n so = true) : SoRel T (ws.tk n) (mask (ws.tk n) H) o so :=
  SoRel.mono (ws := ws.tk n) (ws' := ws.tk n) (List.prefix_refl _) (mask_take n) (lowS_m h hl)
theorem frz_ok {T : Kt} {ws : Ws} {M : Hp} {o : HO} {so : SO} {a : Addr} (h : SoRel T ws M o so) (e : M a = some o) : Rep T ws M (frz so) (.ref a) := by
  cases so with
  | lst ds => cases o <;> first | exact h.elim | exact ⟨a, _, rfl, e, h⟩
  | ins c ns vs =>
    cases o <;> first
      | exact h.elim
      | (obtain ⟨h1, h2, h3, h4⟩ := h; subst h1; exact ⟨a, _, _, rfl, e, h2, h3, h4⟩)
  | dct t ks vs => cases o <;> first | exact h.elim | exact ⟨a, rfl, .inl ⟨h.1, _, e, h.2⟩⟩ | exact ⟨a, rfl, .inr ⟨h.1, _, e, h.2⟩⟩
  | set t ds => cases o <;> exact h.elim
/-- the value that is handed back, the def's own objects forgotten; one of them that is handed back is frozen, or (kp) stays owned -/
def fin (kp : Bool) (n : Nat) (d : D) (s : Sto) : Option (Res D) :=
  if (s.take n).all (lowS n) = true then
    match d with
    | .own l => if l < n then some (.ok (.own l) (s.take n)) else match s[l]? with
      | some so => if lowS n so = true then (if kp = true then some (.ok (.own n) (s.take n ++ [so])) else some (.ok (frz so) (s.take n))) else none
      | none => none
    | d => if low n d = true then some (.ok d (s.take n)) else none
  else none
def finX (n : Nat) (e : Exn) (s : Sto) : Option (Res D) :=
  if (s.take n).all (lowS n) = true ∧ low n e.p = true then some (.ex e (s.take n)) else none
theorem sta_take {T : Kt} {ws ws' : Ws} {H H' : Hp} {s0 s : Sto} (S0 : Sta T ws H s0) (t : Stp ws H ws' H') (S : Sta T ws' H' s) (hall : (s.take s0.length).all (lowS s0.length) = true) :
    Sta T (ws'.tk s0.length) H' (s.take s0.length) ∧ Stp ws H (ws'.tk s0.length) H' := by
  have hlen : ws.own.length = s0.length := S0.len
  have htk : ws'.own.take s0.length = ws.own := by
    obtain ⟨r, e⟩ := t.pre
    rw [← e, ← hlen, List.take_left]
  refine ⟨⟨S.nd.sublist (List.take_sublist _ _), by rw [List.length_take, List.length_take, S.len], fun a z q => S.dis a z (List.mem_of_mem_take q), S.hid, fun l a so e1 e2 => ?_, S.tab⟩, ⟨by show ws.own <+: ws'.own.take s0.length; rw [htk]; exact List.prefix_refl _, t.hid, fun a o e => mask_take _ a o (t.fz a o e), t.hk⟩⟩
  have hl : l < s0.length := by
    have := (List.getElem?_eq_some_iff.mp e2).1
    rw [List.length_take] at this
    omega
  have e1' : ws'.own[l]? = some a := by
    have e1 : (ws'.own.take s0.length)[l]? = some a := e1
    rwa [List.getElem?_take_of_lt hl] at e1
  have hm := List.all_eq_true.mp hall so (List.mem_of_getElem? e2)
  rw [List.getElem?_take_of_lt hl] at e2
  obtain ⟨o, k1, k2⟩ := S.own l a so e1' e2
  exact ⟨o, k1, lowS_ok k2 hm⟩
theorem fin_ok {T : Kt} {ws ws' : Ws} {H H' : Hp} {s0 s s2 : Sto} {d d2 : D} {v : V} {kp : Bool} (S0 : Sta T ws H s0) (t : Stp ws H ws' H') (S : Sta T ws' H' s) (r : Rep T ws' (mask ws' H') d v) (h : fin kp s0.length d s = some (.ok d2 s2)) :
    ∃ ws2, Stp ws H ws2 H' ∧ Sta T ws2 H' s2 ∧ Rep T ws2 (mask ws2 H') d2 v := by
  unfold fin at h
  split at h
  · rename_i hall
    obtain ⟨Sx, tx⟩ := sta_take S0 t S hall
    split at h
    · rename_i l
      split at h
      · rename_i hl
        cases h
        exact ⟨_, tx, Sx, low_ok (.own l) v r (by simp only [low, decide_eq_true_eq]; exact hl)⟩
      · rename_i hl
        split at h
        · rename_i so hso
          split at h
          · rename_i hlow
            obtain ⟨a, ha, rfl⟩ := r
            obtain ⟨o, k1, k2⟩ := S.own l a so ha hso
            have k3 := lowS_ok k2 hlow
            have hna : a ∉ ws'.own.take s0.length := fun z => by
              obtain ⟨j, hj, e⟩ := List.getElem_of_mem z
              have hj' : j < s0.length := by
                have := hj
                simp only [List.length_take] at this
                omega
              have e3 : ws'.own[j]? = some a := by
                have : (ws'.own.take s0.length)[j]? = some a := by rw [List.getElem?_eq_getElem hj, e]
                rwa [List.getElem?_take_of_lt hj'] at this
              exact hl (nd_ix S.nd e3 ha ▸ hj')
            have hnh : a ∉ ws'.hid := fun z => S.dis a z (List.mem_of_getElem? ha)
            split at h
            · cases h
              -- it stays owned
              let wn : Ws := ⟨ws'.own.take s0.length ++ [a], ws'.hid⟩
              have hle : s0.length ≤ ws'.own.length := by
                obtain ⟨r, e⟩ := t.pre
                rw [← e, List.length_append, S0.len]
                omega
              have hln : (ws'.own.take s0.length).length = s0.length := by rw [List.length_take]; omega
              have hls : (s.take s0.length).length = s0.length := by rw [List.length_take, ← S.len]; omega
              have hmm : ∀ b o, mask ws' H' b = some o → mask wn H' b = some o := fun b o e => by
                have nt := mask_nt e
                obtain ⟨k, e⟩ := mask_some e
                exact mask_in (ws := wn) ⟨fun z => (List.mem_append.mp z).elim (fun z => k.1 (List.mem_of_mem_take z)) fun z => k.1 (by rw [show b = a by simpa using z]; exact List.mem_of_getElem? ha), k.2⟩ e nt
              have up : ∀ {o : HO} {q : SO}, SoRel T ws' (mask ws' H') o q → lowS s0.length q = true → SoRel T wn (mask wn H') o q := fun {o q} k hl => SoRel.mono (ws := ws'.tk s0.length) (ws' := wn) (List.prefix_append _ _) hmm (lowS_m k hl)
              refine ⟨wn, ⟨(show ws.own <+: ws'.own.take s0.length from tx.pre).trans (List.prefix_append _ _), t.hid, fun b o e => hmm b o (t.fz b o e), t.hk⟩, ⟨nodup_snoc (S.nd.sublist (List.take_sublist _ _)) hna, by show (ws'.own.take s0.length ++ [a]).length = (s.take s0.length ++ [so]).length; rw [List.length_append, List.length_append, hln, hls] <;> rfl, fun b z q => ?_, S.hid, fun l' b so' e1 e2 => ?_, S.tab⟩, a, ?_, rfl⟩
              · rcases List.mem_append.mp q with q | q
                · exact S.dis b z (List.mem_of_mem_take q)
                · rw [show b = a by simpa using q] at z
                  exact hnh z
              · by_cases hl' : l' < s0.length
                · have e1 : (ws'.own.take s0.length ++ [a])[l']? = some b := e1
                  rw [List.getElem?_append_left (by rw [hln]; exact hl'), List.getElem?_take_of_lt hl'] at e1
                  rw [List.getElem?_append_left (by rw [hls]; exact hl')] at e2
                  have hm := List.all_eq_true.mp hall so' (List.mem_of_getElem? e2)
                  rw [List.getElem?_take_of_lt hl'] at e2
                  obtain ⟨o', q1, q2⟩ := S.own l' b so' e1 e2
                  exact ⟨o', q1, up q2 hm⟩
                · have e1 : (ws'.own.take s0.length ++ [a])[l']? = some b := e1
                  have hlt := (List.getElem?_eq_some_iff.mp e1).1
                  rw [List.length_append, hln] at hlt
                  have : l' = s0.length := by simp at hlt; omega
                  subst this
                  rw [List.getElem?_append_right (by rw [hln]; exact Nat.le_refl _), hln] at e1
                  rw [List.getElem?_append_right (by rw [hls]; exact Nat.le_refl _), hls] at e2
                  simp at e1 e2
                  subst e1 e2
                  exact ⟨o, k1, up k2 hlow⟩
              · show (ws'.own.take s0.length ++ [a])[s0.length]? = some a
                rw [List.getElem?_append_right (by rw [hln]; exact Nat.le_refl _), hln]
                simp
            · cases h
              refine ⟨_, tx, Sx, frz_ok k3 ?_⟩
              exact mask_in (ws := ws'.tk s0.length) ⟨hna, hnh⟩ k1 (sorel_nt k2)
          · cases h
        · cases h
    · split at h
      · rename_i hlow
        cases h
        exact ⟨_, tx, Sx, low_ok _ v r hlow⟩
      · cases h
  · cases h
def startD (N : Nat) (ds : List D) : Rho := ds.map some ++ List.replicate (N - ds.length) none
/-- a def's body as a function -/
def run (kp : Bool) (N : Nat) (f : MS) : FM := fun s ds => match f (startD N ds) s with
  | some (.rt d s') => fin kp s.length d s'
  | some (.nx _ s') => fin kp s.length .non s'
  | some (.ex e _ s') => finX s.length e s'
  | _ => none
theorem env_start {T : Kt} {ws : Ws} {H : Hp} {ds : List D} {vs : List V} {N : List Str} (r : Reps T ws (mask ws H) ds vs) : EnvOk T none ws H (L2.start N vs) (startD N.length ds) := by
  unfold L2.start startD
  refine ⟨by simp [r.length], fun i d e => ?_, fun q z => nomatch z⟩
  by_cases hi : i < ds.length
  · rw [List.getElem?_append_left (by simpa using hi)] at e
    rw [List.getElem?_append_left (by simpa [← r.length] using hi)]
    simp only [List.getElem?_map, Option.map_eq_some_iff] at e ⊢
    obtain ⟨x, e, e2⟩ := e
    cases e2
    obtain ⟨v, e1, r1⟩ := r.get e
    exact ⟨v, ⟨v, e1, rfl⟩, r1⟩
  · rw [List.getElem?_append_right (by simpa using hi), List.getElem?_replicate] at e
    split at e
    · cases e
    · cases e
theorem fin_res {kp : Bool} {n : Nat} {d : D} {s : Sto} {r : Res D} (h : fin kp n d s = some r) : ∃ d2 s2, r = .ok d2 s2 := by
  unfold fin at h
  repeat' split at h
  all_goals first
    | cases h; done
    | (cases h; exact ⟨_, _, rfl⟩)
theorem finX_ok {T : Kt} {ws ws' : Ws} {H H' : Hp} {s0 s : Sto} {e : Exn} {cls : Value} {dx : Option Addr} {r : Res D} (S0 : Sta T ws H s0) (t : Stp ws H ws' H') (S : Sta T ws' H' s) (x : ExRep T ws' H' e cls dx) (h : finX s0.length e s = some r) :
    ∃ s2 ws2, r = .ex e s2 ∧ Stp ws H ws2 H' ∧ Sta T ws2 H' s2 ∧ ExRep T ws2 H' e cls dx := by
  unfold finX at h
  split at h
  · rename_i hh
    cases h
    obtain ⟨Sx, tx⟩ := sta_take S0 t S hh.1
    obtain ⟨h1, d, fs, v, h2, h3, h4, h5, h6⟩ := x
    exact ⟨_, _, rfl, tx, Sx, h1, d, fs, v, h2, mask_take _ _ _ h3, h4, low_ok _ _ h5 hh.2, h6⟩
  · cases h
section
variable {P : Program} {w : World} {T : Kt} {mg : Str → Option Value} {base : Heap}
/-- the wish of a def's body about errors -/
abbrev WD (E : XK) : WX := fun cls d _ H => E cls d H
/-- THE RULE for a def -/
theorem fn_ok {x qual : Str} {st : Stmt} {f : Addr} {fd : FuncData} {N ps : List Str} {k : Nat} {g : MS} {m : FM} (kp : Bool) (F : Fun T.K x qual st f fd) (S : FnScope N ps (defScope st))
    (hbody : ∀ (cdv : Value) (A : Around) (outer : List Env) (s : Shared) (H : Hp) (E : XK), Room k (A.deeper (PyProof.Rows.envOfC qual (defScope st) s.heap.objs.size f cdv)) →
      Takes (cxOf (L2.CX P w) P w T.K mg base N qual (defScope st) f cdv A outer s H E) (WD E) → PassesOwn (model P w) (cxOf (L2.CX P w) P w T.K mg base N qual (defScope st) f cdv A outer s H E).A (cxOf (L2.CX P w) P w T.K mg base N qual (defScope st) f cdv A outer s H E).env (cxOf (L2.CX P w) P w T.K mg base N qual (defScope st) f cdv A outer s H E).xe →
      DSs (cxOf (L2.CX P w) P w T.K mg base N qual (defScope st) f cdv A outer s H E) ⟨T, WD E, none⟩ (defBody st) g)
    (hm : ∀ s ds r, m s ds = some r → run kp N.length g s ds = some r) : FnOk P w T.K mg base (L2.CX P w) (k + 1) f fd ps (spF T ps.length m) := by
  refine F.okX S (fun vs H Q E h => h.1) (fun cdv A outer s H vs Q E hr h => ?_)
  obtain ⟨hl, ws, s0, ds, r0, S0, r, hv, hx, q⟩ := h
  obtain ⟨t, pb, eb⟩ := (hbody cdv A outer s H E hr (takes_of rfl rfl rfl rfl) (passes_of rfl)).ex
  refine ⟨t, pb, ?_⟩
  have h2 := hm _ _ _ hv
  unfold run at h2
  split at h2
  · rename_i d1 s1 h3
    refine eb ws H s0 _ _ _ _ S0 (env_start r) h3 fun v ws1 H1 t1 S1 r1 => ?_
    obtain ⟨d2, s2, rfl⟩ := fin_res h2
    obtain ⟨ws2, t2, S2, r2⟩ := fin_ok S0 t1 S1 r1 h2
    exact q _ _ rfl v ws2 H1 t2 S2 r2
  · rename_i ρ1 s1 h3
    refine eb ws H s0 _ _ _ _ S0 (env_start r) h3 fun σ1 ws1 H1 t1 S1 N1 => ?_
    obtain ⟨d2, s2, rfl⟩ := fin_res h2
    obtain ⟨ws2, t2, S2, r2⟩ := fin_ok (d := .non) (v := .non) S0 t1 S1 rfl h2
    exact q _ _ rfl .non ws2 H1 t2 S2 r2
  · rename_i e ρ1 s1 h3
    refine eb ws H s0 _ _ _ _ S0 (env_start r) h3 fun σ1 cls dx ws1 H1 t1 S1 N1 x1 => ?_
    obtain ⟨s2, ws2, rfl, t2, S2, x2⟩ := finX_ok S0 t1 S1 x1 h2
    exact hx cls dx ws2 H1 t2 S2 x2
  · cases h2
/-- a def that is never called -/
theorem fn_none {CX : CXT} {f : Addr} {fd : FuncData} {ps : List Str} {k n : Nat} (hn : n = ps.length) : FnOk P w T.K mg base CX k f fd ps (spF T n fun _ _ => none) :=
  ⟨fun vs H Q E h => h.1.trans hn, fun A outer s H args us vs Q E hr he hb hv hs => by
    obtain ⟨_, ws, s0, ds, r, _, _, e, _⟩ := hs
    cases e⟩
end
end
end VM
set_option Elab.async false
set_option maxRecDepth 100000
set_option maxHeartbeats 4000000
set_option linter.all false
set_option autoImplicit false
/-! Errors: raised, caught. -/
namespace L2
open PySem PySem.Spec PyProof.Rows
/-- what the clauses wish of an exception of the body, one after the other; some with a name (its slot) -/
def wGen (K : PySem.W.Frag) (Wout : WX) (D : Ends) : List (Value × Option Nat × (Addr → Value → Option Addr → TS)) → WX
  | [] => Wout
  | (c, none, ts) :: r => fun cls d σ H => ∃ b, PySem.W.exmOne K cls c = some b ∧ (b = true → ∀ a, H a = none → ts a cls d D σ H) ∧ (b = false → wGen K Wout D r cls d σ H)
  | (c, some i, ts) :: r => fun cls d σ H => ∃ b, PySem.W.exmOne K cls c = some b ∧ (b = true → ∀ a, H a = none → ts a cls d { nx := fun σ' H' => D.nx (σ'.set i none) H', rt := D.rt, bk := fun σ' H' => D.bk (σ'.set i none) H', ct := fun σ' H' => D.ct (σ'.set i none) H' } (σ.set i (some (.ref a))) H) ∧ (b = false → wGen K Wout D r cls d σ H)
inductive HdsG (X : Cx) : List ExceptHandler → List (Value × Option Nat × (Addr → Value → Option Addr → TS)) → Prop
  | nil : HdsG X [] []
  | cons {x : Str} {c : Value} {ts : Addr → Value → Option Addr → TS} {b₀ : Stmt} {suite : List Stmt} {np pos' : Pos} {hds : List ExceptHandler} {l : List (Value × Option Nat × (Addr → Value → Option Addr → TS))} (hc : Names X x c)
      (hsu : ∀ (a : Addr) (oe : Obj) (cls : Value) (d : Option Addr) (pn : List (Addr × Obj)), Zc cls d oe → (∃ vs, oe.data = .fields vs) → PSs (X.suite a ((a, oe) :: pn)) (b₀ :: suite) (ts a cls d)) (r : HdsG X hds l) :
      HdsG X (.ExceptHandler (some (.Name x np)) none (b₀ :: suite) pos' :: hds) ((c, none, ts) :: l)
  | consN {x n : Str} {i : Nat} {c : Value} {ts : Addr → Value → Option Addr → TS} {b₀ : Stmt} {suite : List Stmt} {np pos' : Pos} {hds : List ExceptHandler} {l : List (Value × Option Nat × (Addr → Value → Option Addr → TS))} (hc : Names X x c)
      (hi : X.N[i]? = some n) (hln : X.env.kindOf n = some .local)
      (hsu : ∀ (a : Addr) (oe : Obj) (cls : Value) (d : Option Addr) (pn : List (Addr × Obj)), Zc cls d oe → (∃ vs, oe.data = .fields vs) → PSs (X.suite a ((a, oe) :: pn)) (b₀ :: suite) (ts a cls d)) (r : HdsG X hds l) :
      HdsG X (.ExceptHandler (some (.Name x np)) (some n) (b₀ :: suite) pos' :: hds) ((c, some i, ts) :: l)
/-- an error in hand: what is known once the body's error lies on the ground at s -/
structure Cgt (X : Cx) (pins : List (Addr × Obj)) (σ : St) (H : Hp) (a : Addr) (cls : Value) (d : Option Addr) (s : Shared) : Prop where
  free : H a = none
  off : a ≠ X.env.locals ∧ a ∉ X.fs
  fly : ∃ (B : Heap) (sI : Shared), Inv X pins σ H sI ∧ (∀ b o, sI.heap.get? b = some o → b ∉ frs X.stack → B.get? b = some o) ∧ sI.heap.UpToSlots s.heap ∧ s.os = sI.os ∧ AllBare s.gens ∧ HandSPX.FlyingZ B (X.env :: X.outer) a (Zc cls d) s.heap
namespace Cgt
variable {X : Cx} {pins : List (Addr × Obj)} {σ : St} {H : Hp} {a : Addr} {cls : Value} {d : Option Addr} {s : Shared}
theorem inv (c : Cgt X pins σ H a cls d s) : Inv X pins σ H s :=
  let ⟨_, _, J, nb, up, os, ag, fl⟩ := c.fly
  J.landed nb fl.1 up os ag
/-- the object, and the state as a suite's state -/
theorem su (c : Cgt X pins σ H a cls d s) : ∃ oe, s.heap.get? a = some oe ∧ Zc cls d oe ∧ (∃ vs, oe.data = .fields vs) ∧ Inv (X.suite a ((a, oe) :: (X.pn ++ pins))) [] σ H s :=
  let ⟨_, _, _, _, _, _, _, fl⟩ := c.fly
  let ⟨oe, vs, h1, h2, h3⟩ := fl.there
  ⟨oe, h1, h2, ⟨vs, h3⟩, c.inv.suite h1 h3 c.free c.off.1 c.off.2⟩
/-- how it comes into hand -/
theorem of (hs : X.stack = X.env :: X.outer) (hf : X.env.frame = some X.env.locals) {W : WX} {u : Value} {s' : Shared} {pn : List (Addr × Obj)} {xe : Value → Shared → Prop} (ok : X.Ok) (hpn : pn = X.pn ++ pins) (x : XE (X.tr pn xe) W u s')
    {Q : Shared → Prop} {E₁ : Value → Shared → Prop} (k : ∀ a cls d σ H h, u = .ref a → W cls d σ H → Cgt X pins σ H a cls d { s' with heap := h } → Q { s' with heap := h }) :
    wpAny (model X.prog X.w) X.A (noteFrame u X.env) (fun _ s₂ => wpAny (model X.prog X.w) X.A (setFlight u none) (fun _ s₃ => Q s₃) E₁ s₂) E₁ s' := by
  subst hpn
  obtain ⟨a, B, sI, p', σ', H', cls, d, rfl, J', nb, up, sky, na, os, ag, w⟩ := x
  have J : Inv X pins σ' H' sI := J'.ofTry ok
  refine Sky.land Zc.steady (by rw [ok.frames, hs]) hf (hs ▸ sky) fun h fl up' => k a cls d σ' H' h rfl w ⟨na, ?_, B, sI, J, nb, up.trans up', os, ag, fl⟩
  obtain ⟨oe, vs, e1, _, e3⟩ := fl.there
  have key : a ∉ frs (X.env :: X.outer) := fun hm => by
    obtain ⟨_, o, e, hnf⟩ := fl.2.2.1.mem hm
    exact hnf vs (by rw [show o = oe from Option.some.inj (e.symm.trans e1)]; exact e3)
  refine ⟨fun z => key ?_, fun z => key ?_⟩
  · simp only [frs, List.filterMap_cons, hf, z, List.mem_cons, true_or]
  · simp only [frs, List.filterMap_cons, hf, List.mem_cons]
    exact .inr z
/-- the name in a clause is looked at -/
theorem names (c : Cgt X pins σ H a cls d s) {x : Str} {v : Value} {np : Pos} (n : Names X x v) {Q : Value → Shared → Prop} {E : Value → Shared → Prop} (q : Q v s) : wpAny (model X.prog X.w) (X.A.mark (some (.ref a))) (eval (.Name x np) X.env) Q E s := by
  obtain ⟨oe, _, _, _, S⟩ := c.su
  rcases n with ⟨hg, hd, hm | ⟨hm, hv, hn⟩⟩
  · exact ld_glob (X := X.suite a ((a, oe) :: (X.pn ++ pins))) S hg hm q hd
  · exact ld_blt (X := X.suite a ((a, oe) :: (X.pn ++ pins))) S hg hm hv q hn hd
theorem asks (c : Cgt X pins σ H a cls d s) {v : Value} {b : Bool} (e : PySem.W.exmOne X.K cls v = some b) : PySem.W.Looks (model X.prog X.w) s.heap (excMatches (.ref a) v) b := by
  obtain ⟨oe, h1, h2, _⟩ := c.su
  exact PySem.W.exm_one c.inv.kIn (fun A Q E s' k q => wpAny_typeOf_ref (k _ _ h1) (by rw [h2.1]; exact q)) e
/-- no clause takes it -/
theorem on (c : Cgt X pins σ H a cls d s) (hs : X.stack = X.env :: X.outer) (hf : X.env.frame = some X.env.locals) {W : WX} (tk : Takes X W) (w : W cls d σ H) {D : Flow → Shared → Prop} : wpAny (model X.prog X.w) X.A (handleBy (.ref a) X.env []) D X.xe s := by
  obtain ⟨B, sI, J, nb, up, os, ag, fl⟩ := c.fly
  obtain ⟨_, _, _, oe, vs, t, _, _, he, _, hd, h1, _⟩ := id fl
  refine wpAny_handleBy_nil ?_
  unfold PySem.passOn
  refine wpAny_bind (wpAny_field he hd h1 ?_)
  have up' : wpAny (model X.prog X.w) X.A (setFlight (.ref a) X.env.frame) (fun _ s4 => wpAny (model X.prog X.w) X.A (throw (.ref a) : Sem Flow) D X.xe s4) X.xe s := by
    rw [hf]
    exact HandSPX.setFlight_upZ fl fun h hh u2 => wpAny_throw (tk _ _ ⟨a, B, sI, pins, σ, H, cls, d, rfl, J, nb, up.trans u2, .inr (.inr (hs ▸ hh)), c.free, os, ag, w⟩)
  have hne : ¬ (Value.ref t == Value.none) = true := by simp
  rw [if_neg hne]
  first
    | exact wpAny_bind (wpAny_pure (wpAny_bind up'))
    | exact wpAny_bind up'
/-- it is set down once more, ahead of a suite -/
theorem lands (c : Cgt X pins σ H a cls d s) {Q : Unit → Shared → Prop} {E : Value → Shared → Prop} (k : ∀ h, Cgt X pins σ H a cls d { s with heap := h } → Q () { s with heap := h }) {A : Around} :
    wpAny (model X.prog X.w) A (setFlight (.ref a) none) Q E s := by
  obtain ⟨B, sI, J, nb, up, os, ag, fl⟩ := c.fly
  exact HandSPX.lands_againZ fl fun h fl' u2 => k h ⟨c.free, c.off, B, sI, J, nb, up.trans u2, os, ag, fl'⟩
end Cgt
/-- the ends of a suite, told outside -/
theorem suiteEnds {X : Cx} {pins : List (Addr × Obj)} {a : Addr} {q : Addr × Obj} {D : Ends} {f : Flow} {s : Shared} (ok : X.Ok) (h : SP (X.suite a (q :: (X.pn ++ pins))) [] D f s) : SP X pins D f s := by
  cases f with
  | ret u =>
    obtain ⟨v, σ, H, S, r, k⟩ := h
    exact ⟨v, σ, H, S.unsuite ok, r, k⟩
  | _ =>
    obtain ⟨σ, H, S, k⟩ := h
    exact ⟨σ, H, S.unsuite ok, k⟩
section
variable {X : Cx} {body : List Stmt} {h₀ : ExceptHandler} {hds : List ExceptHandler} {l : List (Value × Option Nat × (Addr → Value → Option Addr → TS))} {pos : Pos} {tb : WX → TS} {Wout : WX}
theorem handled (hs : X.stack = X.env :: X.outer) (hf : X.env.frame = some X.env.locals) (hN : X.N.Nodup) (tk : Takes X Wout) {pins : List (Addr × Obj)} {σ : St} {H : Hp} {a : Addr} {cls : Value} {d : Option Addr} {s : Shared} {D : Ends} (c : Cgt X pins σ H a cls d s) (ok : X.Ok) :
    ∀ {hds : List ExceptHandler} {l : List (Value × Option Nat × (Addr → Value → Option Addr → TS))}, HdsG X hds l → wGen X.K Wout D l cls d σ H → wpAny (model X.prog X.w) X.A (handleBy (.ref a) X.env hds) (SP X pins D) X.xe s
  | _, _, .nil, w => c.on hs hf tk w
  | _, _, .cons n hsu r, ⟨b, e, y, z⟩ => by
    refine wpAny_handleBy_cons (codeAny_handlers_test (c.names n ((c.asks e).here ?_))) nofun
    cases b with
    | false => exact handled hs hf hN tk c ok r (z rfl)
    | true =>
      refine codeAny_handlers_suite (c.lands fun h c' => ?_)
      obtain ⟨oe, _, h2, h3, S⟩ := c'.su
      exact wpAny_mono ((hsu a oe cls d _ h2 h3).run [] _ _ H _ S (y rfl a c.free)) (fun _ _ q => suiteEnds ok q) fun _ _ q => q.elim
  | _, _, @HdsG.consN _ _ _ i _ _ _ _ _ _ _ _ n hi hln hsu r, ⟨b, e, y, z⟩ => by
    refine wpAny_handleBy_cons (codeAny_handlers_test (c.names n ((c.asks e).here ?_))) nofun
    cases b with
    | false => exact handled hs hf hN tk c ok r (z rfl)
    | true =>
      refine codeAny_handlers_suite_as (c.lands fun h c' => ?_)
      obtain ⟨oe, _, h2, h3, S⟩ := c'.su
      refine store_ok (X := X.suite a ((a, oe) :: (X.pn ++ pins))) (v := .ref a) S hN hi (.inl hln) rfl (fun s5 S5 => ?_) (.inr hln)
      refine wpAny_mono ((hsu a oe cls d _ h2 h3).run [] s5 _ H _ S5 (y rfl a c.free)) (fun f s6 q => ?_) fun _ _ q => q.elim
      cases f with
      | ret u =>
        obtain ⟨v, σ6, H6, S6, r6, k⟩ := q
        exact gone_ok (S6.unsuite ok) hN hi hln fun s7 J => ⟨v, _, H6, J, r6, k⟩
      | _ =>
        obtain ⟨σ6, H6, S6, k⟩ := q
        exact gone_ok (S6.unsuite ok) hN hi hln fun s7 J => ⟨_, H6, J, k⟩
theorem ps_try_gen (hs : X.stack = X.env :: X.outer) (hf : X.env.frame = some X.env.locals) (hN : X.N.Nodup) (tk : Takes X Wout)
    (hb : ∀ (W : WX) (pn : List (Addr × Obj)) (xe : Value → Shared → Prop), Takes (X.tr pn xe) W → PassesOwn (model X.prog X.w) X.A X.env xe → PSs (X.tr pn xe) body (tb W))
    (hh : HdsG X (h₀ :: hds) l) : PS X (.Try body (h₀ :: hds) [] [] pos) (fun D σ H => tb (wGen X.K Wout D l) D σ H) := by
  refine ⟨fun pins s σ H D I h => wpAny_Try_except (wpAny_mono ((hb (wGen X.K Wout D l) (X.pn ++ pins) _ (fun u s' x => ?_) PassesOwn.looking).run [] s σ H D (I.toTry _) h) (fun f s1 q => ?_) fun _ _ q => q)⟩
  · exact Cgt.of hs hf I.ok rfl x fun a cls d σ' H' h e w c => by
      subst e
      exact handled hs hf hN tk c I.ok hh w
  · cases f with
    | next =>
      obtain ⟨σ', H', J, k⟩ := q
      exact wpAny_execs_nil ⟨σ', H', J.ofTry I.ok, k⟩
    | ret u =>
      obtain ⟨v, σ', H', J, r, k⟩ := q
      exact ⟨v, σ', H', J.ofTry I.ok, r, k⟩
    | _ =>
      obtain ⟨σ', H', J, k⟩ := q
      exact ⟨σ', H', J.ofTry I.ok, k⟩
end
end L2
namespace VM
open PySem L2 VE
noncomputable section

/-! ### raise -/
/-- what the text says of an error class: x its name, at Ca, nm what its instances' name is -/
structure ErrOk (P : Program) (w : World) (K : PySem.W.Frag) (mg : Str → Option Value) (base : Heap) (k : Nat) (x : Str) (Ca : Addr) (nm : Str) : Prop where
  own : OwnC K Ca
  gm : mg x = some (.ref Ca)
  made : ∃ (fI : Addr) (fd : FuncData) (sp : Sp) (fs : V → List (Str × V)), PySem.W.findIn K (.ref Ca) "__init__" = some (some (.ref fI)) ∧ PySem.W.typeIn K (.ref fI) = some (.type "function") ∧ FnOk P w K mg base CX0 k fI fd supPs sp ∧ Binds K fd supPs [] ∧
    (∀ p, (fs p).lookup ("place" : Str) = some p ∧ (fs p).lookup ("name" : Str) = some (.str nm)) ∧
    ∀ e p H Q E, H e = some (exo e Ca none) → (∀ dx H', ExEnd H H' e Ca dx (fs p) → Q .non H') → sp [.ref e, p] H Q E
/-- what is asked of the class, whose name is told back -/
structure XfOk (K : PySem.W.Frag) (C : Addr) : Prop where
  xf : XfC K C
  np : PySem.W.findIn K (.ref C) "place" = some none
  nn : PySem.W.findIn K (.ref C) "name" = some none
section
variable {X : Cx} {C : Cn} {e : Expr} {f : M D} {pos p : Pos}
def fRaise (c : Nat) (f : M D) : MS := bndS f fun x ρ s => some (.ex ⟨c, x⟩ ρ s)
theorem ds_raise {x : Str} (c : Nat) {k : Nat} (hc : X.calm = true) (tk : Takes X C.W) (Er : ErrOk X.prog X.w X.K X.mg X.base k x (C.T.ad c) (C.T.nm c)) (hr : Room (k + 1) X.A) (ha : DE X C e f) (hg : Gl X x := by rfl) (hdb : (x == ("__debug__" : Str)) = false := by decide)
    (he : starEach (e :: []) X.env = (false, eval e X.env) :: starEach [] X.env := by rfl) (hpl : (backTo p (starEach [] X.env)).any (·.1) = false := by rfl) {p2 : Pos} : DS X C (.Raise (some (.Call (.Name x p2) [e] [] p)) none pos) (fRaise c f) :=
  let ⟨te, pa, ea⟩ := ha.ex
  let ⟨fI, fd, sp, fs, iC, tI, F1, hb, hfs, hsp⟩ := Er.made
  ⟨_, ps_raise hc tk (pmk_oex (ds := []) (dvs := []) Er.own.ox iC tI F1 hr hb .nil (fun _ _ _ _ _ _ _ z => z.elim) hg Er.gm (pa_cons pa pa_nil he) hdb he hpl), fun ws H s σ ρ o E S N h q => by
    refine (ea.st) S N h q fun x s1 h v ws1 H1 t1 S1 r1 => ?_
    cases h
    refine ⟨by show 1 ≤ 1000; decide, fun a na => hsp a v _ _ _ upd_same fun dx H' z => ?_⟩
    have hdx : H1 dx = none := by
      have := z.nd
      rwa [upd_ne z.ne] at this
    have hH : upd (del H' a) dx (.xd (fs v)) = upd H1 dx (.xd (fs v)) := by
      funext b
      by_cases hb : b = dx
      · rw [hb, upd_same, upd_same]
      · rw [upd_ne hb, upd_ne hb]
        by_cases hba : b = a
        · rw [hba, del_same, na]
        · rw [del_ne hba, z.rest b hba hb, upd_ne hba]
    refine ⟨rfl, dx, fs v, z.ex, z.dc, hdx, ?_⟩
    rw [hH]
    have t2 : Stp ws1 H1 ws1 (upd H1 dx (.xd (fs v))) := S1.stp_new hdx
    exact q σ _ _ ws1 _ (t1.trans t2) (S1.new hdx) ((N.stp t1).stp t2) ⟨rfl, dx, fs v, v, rfl, S1.at_new hdx, (hfs v).1, r1.stp t2, (hfs v).2⟩⟩

/-! ### try -/
/-- the clauses, from the first -/
abbrev Hd := Exn → MS
def hEnd : Hd := fun e ρ s => some (.ex e ρ s)
def hNo (tab : List (Nat × Bool)) (g : Exn → MS) (r : Hd) : Hd := fun e ρ s => match tab.lookup e.c with
  | some true => match g e ρ s with
    | some (.ex _ _ _) => none
    | o => o
  | some false => r e ρ s
  | none => none
def hAs (i : Nat) (tab : List (Nat × Bool)) (g : Exn → MS) (r : Hd) : Hd := fun e ρ s => match tab.lookup e.c with
  | some true => if i < ρ.length then match g e (ρ.set i none) s with
    | some (.nx ρ1 s1) => some (.nx (ρ1.set i none) s1)
    | some (.bk ρ1 s1) => some (.bk (ρ1.set i none) s1)
    | some (.ct ρ1 s1) => some (.ct (ρ1.set i none) s1)
    | some (.rt d s1) => some (.rt d s1)
    | _ => none
    else none
  | some false => r e ρ s
  | none => none
def fTry (fb : MS) (h : Hd) : MS := fun ρ s => match fb ρ s with
  | some (.ex e ρ1 s1) => h e ρ1 s1
  | o => o
/-- clauses and what they do -/
structure DH (X : Cx) (T : Kt) (W : WX) (hds : List ExceptHandler) (h : Hd) : Prop where
  ex : ∃ l, HdsG X hds l ∧ ∀ ws H s σ ρ o E e cls dx, Sta T ws H s → EnvOk T none ws H σ ρ → ExRep T ws H e cls dx → h e ρ s = some o → EndsOk ⟨T, W, none⟩ ws H E o → wGen X.K W E l cls dx σ H
variable {T : Kt} {W : WX} {hds : List ExceptHandler} {h : Hd} {tab : List (Nat × Bool)} {g : Exn → MS} {x n : Str} {cl : Value} {b₀ : Stmt} {suite body : List Stmt} {np pos' : Pos} {h₀ : ExceptHandler}
theorem dh_end : DH X T W [] hEnd := ⟨[], .nil, fun ws H s σ ρ o E e cls dx S N xr h q => by
  cases h
  exact q σ cls dx ws H (Stp.refl _ _) S N xr⟩
/-- the context within a suite -/
abbrev Csu (T : Kt) (i : Nat) (a : Addr) (d : Option Addr) (e : Exn) : Cn := ⟨T, W0, some ⟨i, a, d, e⟩⟩
theorem EnvOk.drop {x : Option Sx} {ws : Ws} {H : Hp} {σ : L2.St} {ρ : Rho} (N : EnvOk T x ws H σ ρ) : EnvOk T none ws H σ ρ := ⟨N.len, N.at_, fun _ z => nomatch z⟩
theorem dh_no (hc : Names X x cl) (hex : ∀ q ∈ tab, PySem.W.exmOne X.K (.ref (T.ad q.1)) cl = some q.2)
    (hs : ∀ (a : Addr) (oe : Obj) (cls : Value) (d : Option Addr) (pn : List (Addr × Obj)) (e : Exn), Zc cls d oe → (∃ vs, oe.data = .fields vs) → cls = .ref (T.ad e.c) → (e.c, true) ∈ tab → DSs (X.suite a ((a, oe) :: pn)) ⟨T, W0, none⟩ (b₀ :: suite) (g e))
    (r : DH X T W hds h) : DH X T W (.ExceptHandler (some (.Name x np)) none (b₀ :: suite) pos' :: hds) (hNo tab g h) :=
  let ⟨l, hl, hp⟩ := r.ex
  ⟨(cl, none, fun a cls d D σ H => ∃ (e : Exn) (hc : cls = .ref (T.ad e.c)) (ht : (e.c, true) ∈ tab), ∀ (oe : Obj) (pn : List (Addr × Obj)) (hz : Zc cls d oe) (hv : ∃ vs, oe.data = .fields vs), Classical.choose (hs a oe cls d pn e hz hv hc ht).ex D σ H) :: l,
    .cons hc (fun a oe cls d pn hz hv => ⟨fun pins s σ H D I ⟨e, hc, ht, hh⟩ => (Classical.choose_spec (hs a oe cls d pn e hz hv hc ht).ex).1.run pins s σ H D I (hh oe pn hz hv)⟩) hl,
    fun ws H s σ ρ o E e cls dx S N xr h q => by
      unfold hNo at h
      have ec : cls = .ref (T.ad e.c) := xr.1
      split at h
      · rename_i ht
        have hm := lookup_mem ht
        refine ⟨true, by rw [ec]; exact hex _ hm, fun _ a na => ⟨e, ec, hm, fun oe pn hz hv => ?_⟩, fun z => nomatch z⟩
        split at h
        · cases h
        · rename_i o' hne
          refine (Classical.choose_spec (hs a oe cls dx pn e hz hv ec hm).ex).2 ws H s σ ρ o E S N h ?_
          cases o with
          | ex e2 ρ2 s2 => exact absurd h (hne _ _ _)
          | nx _ _ => exact q
          | rt _ _ => exact q
          | bk _ _ => exact q
          | ct _ _ => exact q
      · rename_i ht
        exact ⟨false, by rw [ec]; exact hex _ (lookup_mem ht), (fun z => nomatch z), fun _ => hp ws H s σ ρ o E e cls dx S N xr h q⟩
      · cases h⟩
theorem dh_as (i : Nat) (hc : Names X x cl) (hex : ∀ q ∈ tab, PySem.W.exmOne X.K (.ref (T.ad q.1)) cl = some q.2)
    (hs : ∀ (a : Addr) (oe : Obj) (cls : Value) (d : Option Addr) (pn : List (Addr × Obj)) (e : Exn), Zc cls d oe → (∃ vs, oe.data = .fields vs) → cls = .ref (T.ad e.c) → (e.c, true) ∈ tab → DSs (X.suite a ((a, oe) :: pn)) (Csu T i a d e) (b₀ :: suite) (g e))
    (r : DH X T W hds h) (hi : X.N[i]? = some n := by rfl) (hln : X.env.kindOf n = some .local := by rfl) : DH X T W (.ExceptHandler (some (.Name x np)) (some n) (b₀ :: suite) pos' :: hds) (hAs i tab g h) :=
  let ⟨l, hl, hp⟩ := r.ex
  ⟨(cl, some i, fun a cls d D σ H => ∃ (e : Exn) (hc : cls = .ref (T.ad e.c)) (ht : (e.c, true) ∈ tab), ∀ (oe : Obj) (pn : List (Addr × Obj)) (hz : Zc cls d oe) (hv : ∃ vs, oe.data = .fields vs), Classical.choose (hs a oe cls d pn e hz hv hc ht).ex D σ H) :: l,
    .consN hc hi hln (fun a oe cls d pn hz hv => ⟨fun pins s σ H D I ⟨e, hc, ht, hh⟩ => (Classical.choose_spec (hs a oe cls d pn e hz hv hc ht).ex).1.run pins s σ H D I (hh oe pn hz hv)⟩) hl,
    fun ws H s σ ρ o E e cls dx S N xr h q => by
      unfold hAs at h
      have ec : cls = .ref (T.ad e.c) := xr.1
      split at h
      · rename_i ht
        have hm := lookup_mem ht
        refine ⟨true, by rw [ec]; exact hex _ hm, fun _ a na => ⟨e, ec, hm, fun oe pn hz hv => ?_⟩, fun z => nomatch z⟩
        split at h
        · rename_i hlt
          rw [← N.len] at hlt
          have N2 : EnvOk T (some ⟨i, a, dx, e⟩) ws H (σ.set i (some (.ref a))) (ρ.set i none) := by
            have Nc := N.clr (i := i) True.intro
            refine ⟨by simpa using Nc.len, fun j d hj => ?_, fun q' hq' => ?_⟩
            · obtain ⟨v, h1, h2⟩ := Nc.at_ j d hj
              refine ⟨v, ?_, h2⟩
              by_cases hji : i = j
              · subst hji
                rw [List.getElem?_set_self hlt] at h1
                cases h1
              · rw [List.getElem?_set_ne hji] at h1 ⊢
                exact h1
            · cases hq'
              exact ⟨by rw [List.getElem?_set_self hlt], cls, xr⟩
          have sp := (Classical.choose_spec (hs a oe cls dx pn e hz hv ec hm).ex).2 ws H s (σ.set i (some (.ref a))) (ρ.set i none)
          split at h
          · rename_i ρ1 s1 h1
            cases h
            exact sp _ _ S N2 h1 fun σ2 ws2 H2 t2 S2 N3 => q _ ws2 H2 t2 S2 (N3.drop.clr True.intro)
          · rename_i ρ1 s1 h1
            cases h
            exact sp _ _ S N2 h1 fun σ2 ws2 H2 t2 S2 N3 => q _ ws2 H2 t2 S2 (N3.drop.clr True.intro)
          · rename_i ρ1 s1 h1
            cases h
            exact sp _ _ S N2 h1 fun σ2 ws2 H2 t2 S2 N3 => q _ ws2 H2 t2 S2 (N3.drop.clr True.intro)
          · rename_i d s1 h1
            cases h
            exact sp _ _ S N2 h1 q
          · cases h
        · cases h
      · rename_i ht
        exact ⟨false, by rw [ec]; exact hex _ (lookup_mem ht), (fun z => nomatch z), fun _ => hp ws H s σ ρ o E e cls dx S N xr h q⟩
      · cases h⟩
theorem ds_try {fb : MS} (hs : X.stack = X.env :: X.outer) (hf : X.env.frame = some X.env.locals) (hN : X.N.Nodup) (tk : Takes X W)
    (hb : ∀ (W : WX) (pn : List (Addr × Obj)) (xe : Value → Shared → Prop), Takes (X.tr pn xe) W → PassesOwn (model X.prog X.w) X.A X.env xe → DSs (X.tr pn xe) ⟨T, W, none⟩ body fb)
    (hh : DH X T W (h₀ :: hds) h) : DS X ⟨T, W, none⟩ (.Try body (h₀ :: hds) [] [] pos) (fTry fb h) :=
  let ⟨l, hl, hp⟩ := hh.ex
  ⟨_, ps_try_gen (tb := fun W D σ H => ∀ (pn : List (Addr × Obj)) (xe : Value → Shared → Prop) (tk : Takes (X.tr pn xe) W) (po : PassesOwn (model X.prog X.w) X.A X.env xe), Classical.choose (hb W pn xe tk po).ex D σ H) hs hf hN tk
    (fun W pn xe tk po => ⟨fun pins s σ H D I hw => (Classical.choose_spec (hb W pn xe tk po).ex).1.run pins s σ H D I (hw pn xe tk po)⟩) hl, fun ws H s σ ρ o E S N h q pn xe tk' po => by
      have sp := (Classical.choose_spec (hb _ pn xe tk' po).ex).2 ws H s σ ρ
      unfold fTry at h
      split at h
      · rename_i e ρ1 s1 h1
        refine sp _ E S N h1 fun σ1 cls dx ws1 H1 t1 S1 N1 x1 => ?_
        exact hp ws1 H1 s1 σ1 ρ1 o E e cls dx S1 N1 x1 h (q.stp t1)
      · rename_i r hne
        refine sp o E S N h ?_
        cases o with
        | ex e2 ρ2 s2 => exact absurd h (hne _ _ _)
        | nx _ _ => exact q
        | rt _ _ => exact q
        | bk _ _ => exact q
        | ct _ _ => exact q⟩
/-- e.place, e the error that the suite holds -/
theorem de_xp {a : Addr} {oe : Obj} {cls : Value} {d : Option Addr} {pn : List (Addr × Obj)} {ex : Exn} {i : Nat} {W : WX} (hz : Zc cls d oe) (hv : ∃ vs, oe.data = .fields vs) (hc : cls = .ref (T.ad ex.c)) (O : XfOk X.K (T.ad ex.c))
    (hN : (X.suite a ((a, oe) :: pn)).N[i]? = some n := by rfl) (hvis : Vis (X.suite a ((a, oe) :: pn)).env.scope n := by first | exact Or.inl rfl | exact Or.inr (Or.inl rfl) | exact Or.inr (Or.inr rfl))
    (hd : (n == ("__debug__" : Str)) = false := by decide) (hcd : (n == ("__classdict__" : Str)) = false := by decide)
    (hb : attributeBase (.Name n p) "place" X.env (eval (.Name n p) X.env) = eval (.Name n p) X.env := by rfl) :
    DE (X.suite a ((a, oe) :: pn)) ⟨T, W, some ⟨i, a, d, ex⟩⟩ (.Attribute (.Name n p) "place" pos) (fC ex.p) :=
  ⟨_, pe_xf O.xf O.np hz hv (pe_var hN hvis hd hcd) hb, fun ws H s σ ρ R Q S N h xx q => by
    cases h
    obtain ⟨e1, cl, ec, dd, fs, v, ed, em, el, rv, _⟩ := N.ex _ rfl
    exact ⟨.ref a, e1, rfl, hc, dd, fs, v, ed, (mask_some em).2, el, q _ _ rfl v ws H (Stp.refl _ _) S rv⟩⟩
theorem de_xn {a : Addr} {oe : Obj} {cls : Value} {d : Option Addr} {pn : List (Addr × Obj)} {ex : Exn} {i : Nat} {W : WX} (hz : Zc cls d oe) (hv : ∃ vs, oe.data = .fields vs) (hc : cls = .ref (T.ad ex.c)) (O : XfOk X.K (T.ad ex.c))
    (hN : (X.suite a ((a, oe) :: pn)).N[i]? = some n := by rfl) (hvis : Vis (X.suite a ((a, oe) :: pn)).env.scope n := by first | exact Or.inl rfl | exact Or.inr (Or.inl rfl) | exact Or.inr (Or.inr rfl))
    (hd : (n == ("__debug__" : Str)) = false := by decide) (hcd : (n == ("__classdict__" : Str)) = false := by decide)
    (hb : attributeBase (.Name n p) "name" X.env (eval (.Name n p) X.env) = eval (.Name n p) X.env := by rfl) :
    DE (X.suite a ((a, oe) :: pn)) ⟨T, W, some ⟨i, a, d, ex⟩⟩ (.Attribute (.Name n p) "name" pos) (fC (.str (T.nm ex.c))) :=
  ⟨_, pe_xf O.xf O.nn hz hv (pe_var hN hvis hd hcd) hb, fun ws H s σ ρ R Q S N h xx q => by
    cases h
    obtain ⟨e1, cl, ec, dd, fs, v, ed, em, _, _, en⟩ := N.ex _ rfl
    exact ⟨.ref a, e1, rfl, hc, dd, fs, _, ed, (mask_some em).2, en, q _ _ rfl _ ws H (Stp.refl _ _) S rfl⟩⟩
end
end
end VM
set_option Elab.async false
set_option maxRecDepth 100000
set_option maxHeartbeats 4000000
set_option linter.all false
set_option autoImplicit false
/-! Instances. -/
namespace L2
open PySem PySem.Spec PyProof.Rows
section
variable {X : Cx} {CX : CXT} {k : Nat} {f C : Addr} {fd : FuncData} {ps : List Str} {sp : Sp} {E : St → XK} {x m : Str} {p pos apos : Pos} {e o : Expr} {es : List Expr} {ta : TE} {t : TA}
def vm_tMeth (C : Addr) (m : Str) (sp : Sp) (E : St → XK) (ta : TE) (t : TA) : TE := fun σ H Q => ta σ H fun x H1 => ∃ a dx fs, x = .ref a ∧ H1 a = some (.ins C dx fs) ∧ fs.lookup m = none ∧ t σ H1 fun vs H2 => sp (x :: vs) H2 Q (E σ)
theorem vm_pe_meth {pl : Sem Bool} (he : PE X o ta) (c : Cls X.K C) (hm : Meth X.K C m f) (F : FnOk X.prog X.w X.K X.mg X.base CX k f fd ps sp) (hr : Room k X.A) (hb : Binds X.K fd ps []) (hx : ∀ σ, PassesAt CX X σ (E σ)) (ha : PA X (e :: es) t)
    (hst : starEach (e :: es) X.env = (false, eval e X.env) :: starEach es X.env := by rfl) (hpl : (backTo pos (starEach es X.env)).any (·.1) = false := by rfl)
    (ht : eval (.Call (.Attribute o m apos) (e :: es) [] pos) X.env = (do
      let ov ← eval o X.env
      standAt apos.atName
      let (f, first) ← holding [ov] (getMethod ov m pl)
      callWith pos f first (backTo pos (starEach (e :: es) X.env)) (backToKw pos (keywordEach [] X.env))) := by rfl) :
    PE X (.Call (.Attribute o m apos) (e :: es) [] pos) (vm_tMeth C m sp E ta t) := by
  refine ⟨fun pins s σ H Q I h => ?_⟩
  refine PySem.W.methodCall_KW (pl := pl) (thn (he.run pins s σ H _ I h) fun u s1 ⟨x, H1, I1, rx, a, dx, fs, ex, ea, l, q⟩ => ?_) ht
  subst ex
  obtain rfl : u = Value.ref a := rx
  refine getmeth_ok I1 ea c hm l ?_
  refine PySem.W.callWith_K (first := [.ref a]) (h₀ := X.base) I.ok.mod.kin hm.kp (thn (ha.run pos pins s1 σ H1 _ I1 q) fun us s2 ⟨vs, H2, I2, r, q2⟩ => ⟨I2.kIn, ?_⟩) hst hpl
  exact run_fnS (us := .ref a :: us) (vs := .ref a :: vs) F hr hb (hx σ) I2 (.cons rfl r) q2
theorem vm_pe_meth0 {pl : Sem Bool} (he : PE X o ta) (c : Cls X.K C) (hm : Meth X.K C m f) (F : FnOk X.prog X.w X.K X.mg X.base CX k f fd ps sp) (hr : Room k X.A) (hb : Binds X.K fd ps []) (hx : ∀ σ, PassesAt CX X σ (E σ))
    (ht : eval (.Call (.Attribute o m apos) [] [] pos) X.env = (do
      let ov ← eval o X.env
      standAt apos.atName
      let (f, first) ← holding [ov] (getMethod ov m pl)
      callWith pos f first (backTo pos (starEach [] X.env)) (backToKw pos (keywordEach [] X.env))) := by rfl) :
    PE X (.Call (.Attribute o m apos) [] [] pos) (vm_tMeth C m sp E ta tNil) := by
  refine ⟨fun pins s σ H Q I h => ?_⟩
  refine PySem.W.methodCall_KW (pl := pl) (thn (he.run pins s σ H _ I h) fun u s1 ⟨x, H1, I1, rx, a, dx, fs, ex, ea, l, q⟩ => ?_) ht
  subst ex
  obtain rfl : u = Value.ref a := rx
  refine getmeth_ok I1 ea c hm l ?_
  exact PySem.W.callWith_K0 (first := [.ref a]) I1.kIn hm.kp (run_fnS (us := [.ref a]) (vs := [.ref a]) F hr hb (hx σ) I1 (.cons rfl .nil) q)
theorem vm_pe_call0 (F : FnOk X.prog X.w X.K X.mg X.base CX k f fd ps sp) (hr : Room k X.A) (hg : Gl X x) (hm : X.mg x = some (.ref f)) (hk : PySem.W.keepIn X.K (.ref f) = true) (hb : Binds X.K fd ps []) (hx : ∀ σ, PassesAt CX X σ (E σ))
    (hdb : (x == ("__debug__" : Str)) = false := by decide) : PE X (.Call (.Name x p) [] [] pos) (tCallS sp E tNil) := by
  refine ⟨fun pins s σ H Q I h => ?_⟩
  refine wpAny_Call_Name_kw (ld_glob I hg hm ?_ hdb)
  exact PySem.W.callWith_K0 I.kIn hk (run_fnS (us := []) F hr hb (hx σ) I .nil h)
theorem vm_run_make {pins : List (Addr × Obj)} {σ : St} {H : Hp} {s : Shared} {Q : VK} {us : List Value} {vs : List V} {E : XK} (M : Mk X.K C f) (F : FnOk X.prog X.w X.K X.mg X.base CX k f fd ps sp) (hr : Room (k + 1) X.A) (hb : Binds X.K fd ps [])
    (hx : PassesAt CX X σ E) (I : Inv X pins σ H s) (r : Vals vs us)
    (h : ∀ x dx, H x = none → H dx = none → dx ≠ x → sp (.ref x :: vs) (upd (upd H dx (.own x)) x (.ins C dx [])) (fun v H2 => v = .non ∧ Q (.ref x) H2) E) :
    wpAny (model X.prog X.w) X.A (call (.ref C) us) (EP X pins σ Q) X.xe s := by
  have hq := h (s.heap.objs.size + 1) s.heap.objs.size (I.hok.fresh (Nat.le_succ _)) (I.hok.fresh (Nat.le_refl _)) (Nat.ne_of_lt (Nat.lt_succ_self _))
  have I2 := Inv.made (C := C) I
  have r2 : Vals (V.ref (s.heap.objs.size + 1) :: vs) (Value.ref (s.heap.objs.size + 1) :: us) := .cons rfl r
  have hl : (Value.ref (s.heap.objs.size + 1) :: us ++ []).length = ps.length := by
    have e := r2.length
    rw [F.len _ _ _ _ hq] at e
    rw [List.append_nil]
    exact e.symm
  have bb := hb _ (Value.ref (s.heap.objs.size + 1) :: us) I2.kIn hl
  rw [List.append_nil] at bb
  refine wpAny_call (make_map (f := f) I.kIn M.makes M.init (beq_iff_eq.mp M.fn) (codeAny_mono (F.run _ X.stack _ _ ⟨Value.ref (s.heap.objs.size + 1) :: us, []⟩ (Value.ref (s.heap.objs.size + 1) :: us) _ _ E (hr.make C us [])
    (I2.env0.make C us []) bb r2 hq) fun r s' hq' => ?_))
  cases r with
  | error e => exact hx pins _ _ e s' I2 hq'
  | ok fl =>
    cases fl with
    | ret u =>
      obtain ⟨v, H', I3, rv, ev, q3⟩ := I2.after hq'
      subst ev
      exact ⟨rv, ⟨V.ref (s.heap.objs.size + 1), H', I3, rfl, q3⟩⟩
    | next => exact False.elim hq'
    | brk => exact False.elim hq'
    | cont => exact False.elim hq'
def vm_tMake (C : Addr) (sp : Sp) (E : St → XK) (t : TA) : TE := fun σ H Q => t σ H fun vs H1 => ∀ x dx, H1 x = none → H1 dx = none → dx ≠ x → sp (.ref x :: vs) (upd (upd H1 dx (.own x)) x (.ins C dx [])) (fun v H2 => v = .non ∧ Q (.ref x) H2) (E σ)
theorem vm_pe_make (M : Mk X.K C f) (F : FnOk X.prog X.w X.K X.mg X.base CX k f fd ps sp) (hr : Room (k + 1) X.A) (hg : Gl X x) (hm : X.mg x = some (.ref C)) (hb : Binds X.K fd ps []) (hx : ∀ σ, PassesAt CX X σ (E σ))
    (ha : PA X (e :: es) t) (hdb : (x == ("__debug__" : Str)) = false := by decide) (he : starEach (e :: es) X.env = (false, eval e X.env) :: starEach es X.env := by rfl) (hpl : (backTo pos (starEach es X.env)).any (·.1) = false := by rfl) :
    PE X (.Call (.Name x p) (e :: es) [] pos) (vm_tMake C sp E t) := by
  refine ⟨fun pins s σ H Q I h => ?_⟩
  refine wpAny_Call_Name_kw (ld_glob I hg hm ?_ hdb)
  refine PySem.W.callWith_K (h₀ := X.base) I.ok.mod.kin M.kp (thn (ha.run pos pins s σ H _ I h) fun us s1 ⟨vs, H1, I1, r, q⟩ => ⟨I1.kIn, ?_⟩) he hpl
  exact vm_run_make M F hr hb (hx σ) I1 r q
end
end L2
namespace VM
open PySem L2
noncomputable section

/-! ### fields -/
def getN (n : Nat) : List Nat → List D → Option D
  | m :: ms, d :: ds => if m = n then some d else getN n ms ds
  | _, _ => none
def putN (n : Nat) (v : D) : List Nat → List D → List Nat × List D
  | m :: ms, d :: ds => if m = n then (m :: ms, v :: ds) else ((m :: (putN n v ms ds).1), (d :: (putN n v ms ds).2))
  | _, _ => ([n], [v])
/-- class, fields, values of an instance -/
def insD (s : Sto) : D → Option (Nat × List Nat × List D)
  | .ins c ns vs => some (c, ns, vs)
  | .own l => match s[l]? with
    | some (.ins c ns vs) => some (c, ns, vs)
    | _ => none
  | _ => none
theorem ins_ok {T : Kt} {ws : Ws} {H : Hp} {s : Sto} {d : D} {v : V} {c : Nat} {ns : List Nat} {ds : List D} (S : Sta T ws H s) (r : Rep T ws (mask ws H) d v) (h : insD s d = some (c, ns, ds)) :
    ∃ a dx fs, v = .ref a ∧ H a = some (.ins (T.ad c) dx fs) ∧ InsOk T c ns ∧ fs.map (·.1) = ns.map T.f ∧ Reps T ws (mask ws H) ds (fs.map (·.2)) := by
  cases d with
  | ins c' ns' vs' =>
    cases h
    obtain ⟨a, dx, fs, hv, h1, h2, h3, h4⟩ := r
    exact ⟨a, dx, fs, hv, (mask_some h1).2, h2, h3, h4⟩
  | own l =>
    obtain ⟨a, h1, rfl⟩ := r
    unfold insD at h
    dsimp only at h
    cases hl : s[l]? with
    | none => rw [hl] at h; cases h
    | some so =>
      rw [hl] at h
      obtain ⟨o, h3, h4⟩ := S.own l a _ h1 hl
      cases so with
      | ins c' ns' vs' =>
        cases h
        cases o <;> first
          | exact h4.elim
          | (obtain ⟨e, k1, k2, k3⟩ := h4; subst e; exact ⟨a, _, _, rfl, h3, k1, k2, k3⟩)
      | lst ds => cases h
      | dct t ks vs => cases h
      | set t ds => cases h
  | _ => cases h
theorem f_inj {T : Kt} {m n : Nat} (hm : m < T.fld.length) (hn : n < T.fld.length) (h : T.f m = T.f n) : m = n := by
  unfold Kt.f at h
  rw [List.getD_eq_getElem?_getD, List.getD_eq_getElem?_getD, List.getElem?_eq_getElem hm, List.getElem?_eq_getElem hn] at h
  exact (List.getElem_inj T.ok).mp h
theorem getN_ok {T : Kt} {ws : Ws} {M : Hp} {n : Nat} (hn : n < T.fld.length) : ∀ {ns : List Nat} {ds : List D} {fs : List (Str × V)} {d : D}, (∀ m ∈ ns, m < T.fld.length) → fs.map (·.1) = ns.map T.f → Reps T ws M ds (fs.map (·.2)) → getN n ns ds = some d → n ∈ ns ∧ ∃ v, fs.lookup (T.f n) = some v ∧ Rep T ws M d v
  | [], ds, fs, d, _, _, _, h => by cases ds <;> cases h
  | m :: ms, [], fs, d, _, _, _, h => by cases h
  | m :: ms, e :: ds, fs, d, hb, h1, h2, h => by
    cases fs with
    | nil => cases h1
    | cons p fs =>
      obtain ⟨g, w⟩ := p
      simp only [List.map_cons, List.cons.injEq] at h1
      obtain ⟨v, r, hv, k1, k2⟩ := h2
      simp only [List.map_cons, List.cons.injEq] at hv
      obtain ⟨rfl, hr⟩ := hv
      unfold getN at h
      split at h
      · rename_i e1
        cases h
        subst e1
        exact ⟨List.mem_cons_self, w, by rw [h1.1]; simp [List.lookup], k1⟩
      · rename_i e1
        obtain ⟨i1, v, i2, i3⟩ := getN_ok hn (fun q hq => hb q (List.mem_cons_of_mem _ hq)) h1.2 (by rw [hr]; exact k2) h
        refine ⟨List.mem_cons_of_mem _ i1, v, ?_, i3⟩
        have : (T.f n == g) = false := by
          rw [h1.1]
          exact beq_eq_false_iff_ne.mpr fun z => e1 (f_inj hn (hb m List.mem_cons_self) z).symm
        simp [List.lookup, this, i2]
section
variable {X : Cx} {C : Cn} {e o : Expr} {es : List Expr} {f fo fv : M D} {fa : M (List D)} {pos p apos p' : Pos}
def fFld (n : Nat) (f : M D) : M D := bnd f fun x => got fun s => (insD s x).bind fun q => getN n q.2.1 q.2.2
theorem de_fld {a : Str} (n : Nat) (hn : n < C.T.fld.length) (ha : DE X C e f) (hf : C.T.f n = a := by rfl) (hb : attributeBase e a X.env (eval e X.env) = eval e X.env := by rfl) (hK : X.K = C.T.K := by rfl) : DE X C (.Attribute e a pos) (fFld n f) :=
  let ⟨_, pa, ea⟩ := ha.ex
  ⟨_, pe_fld pa hb, fun ws H s σ ρ R Q S N h xx q => (ea.b) S N h xx fun x s1 h v ws1 H1 t1 S1 r1 => by
    obtain ⟨z, h2, rfl⟩ := got_some h
    obtain ⟨⟨c, ns, ds⟩, h3, h4⟩ := Option.bind_eq_some_iff.mp h2
    obtain ⟨a', dx, fs, rfl, k1, k2, k3, k4⟩ := ins_ok S1 r1 h3
    obtain ⟨i1, w, i2, i3⟩ := getN_ok hn (fun m hm => (k2.2 m hm).1) k3 k4 h4
    subst hf
    rw [hK]
    exact ⟨a', _, dx, fs, w, rfl, k1, k2.1.cl, (k2.2 n i1).2, i2, q _ _ rfl w ws1 H1 t1 S1 i3⟩⟩
theorem putN_ok {T : Kt} {ws : Ws} {M : Hp} {n : Nat} {d : D} {v : V} (hn : n < T.fld.length) (r : Rep T ws M d v) : ∀ {ns : List Nat} {ds : List D} {fs : List (Str × V)}, (∀ m ∈ ns, m < T.fld.length) → fs.map (·.1) = ns.map T.f → Reps T ws M ds (fs.map (·.2)) →
    (putF (T.f n) v fs).map (·.1) = (putN n d ns ds).1.map T.f ∧ Reps T ws M (putN n d ns ds).2 ((putF (T.f n) v fs).map (·.2)) ∧ ∀ m ∈ (putN n d ns ds).1, m = n ∨ m ∈ ns
  | [], ds, fs, _, h1, h2 => by
    have : fs = [] := List.map_eq_nil_iff.mp h1
    subst this
    have e : putN n d [] ds = ([n], [d]) := by cases ds <;> rfl
    rw [e]
    exact ⟨rfl, ⟨v, [], rfl, r, rfl⟩, fun m hm => .inl (by simpa using hm)⟩
  | m :: ms, [], fs, _, h1, h2 => by
    cases fs with
    | nil => cases h1
    | cons p fs => cases h2
  | m :: ms, e :: ds, fs, hb, h1, h2 => by
    cases fs with
    | nil => cases h1
    | cons p fs =>
      obtain ⟨g, w⟩ := p
      simp only [List.map_cons, List.cons.injEq] at h1
      obtain ⟨v', r', hv, k1, k2⟩ := h2
      simp only [List.map_cons, List.cons.injEq] at hv
      obtain ⟨rfl, hr⟩ := hv
      unfold putN putF
      by_cases e1 : m = n
      · subst e1
        rw [if_pos rfl, if_pos h1.1]
        refine ⟨?_, ⟨v, r', ?_, r, k2⟩, fun q hq => .inr hq⟩
        · simp [h1.1, h1.2]
        · simp [hr]
      · have e2 : ¬ g = T.f n := by
          rw [h1.1]
          exact fun z => e1 (f_inj (hb m List.mem_cons_self) hn z)
        rw [if_neg e1, if_neg e2]
        obtain ⟨i1, i2, i3⟩ := putN_ok hn r (ns := ms) (ds := ds) (fs := fs) (fun q hq => hb q (List.mem_cons_of_mem _ hq)) h1.2 (by rw [hr]; exact k2)
        refine ⟨by simp [h1.1, i1], ⟨w, _, rfl, k1, i2⟩, fun q hq => ?_⟩
        rcases List.mem_cons.mp hq with z | z
        · exact .inr (by rw [z]; exact List.mem_cons_self)
        · exact (i3 q z).imp id (List.mem_cons_of_mem _)
/-- o.f = v, o an owned instance of class c -/
def setF (c : Nat) (s : Sto) (o : D) (n : Nat) (v : D) : Option Sto := match o with
  | .own l => match s[l]? with
    | some (.ins c' ns vs) => if c' = c ∧ ns.length < 900 then some (s.set l (.ins c' (putN n v ns vs).1 (putN n v ns vs).2)) else none
    | _ => none
  | _ => none
def fSetF (c n : Nat) (fo fv : M D) : MS := bndS fv fun v => bndS fo fun o ρ s => (setF c s o n v).map fun s1 => .nx ρ s1
theorem ds_fld {a : Str} (c n : Nat) (hn : n < C.T.fld.length) (hna : NoAttr C.T.K (C.T.ad c) (C.T.f n)) (ho : DE X C o fo) (hv : DE X C e fv) (hf : C.T.f n = a := by rfl) (hs : swapsWith e (some (.Attribute o a p')) pos.line X.env = pure false := by rfl) (hK : X.K = C.T.K := by rfl) :
    DS X C (.Assign [.Attribute o a p'] e pos) (fSetF c n fo fv) :=
  let ⟨_, po, eo⟩ := ho.ex
  let ⟨_, pv, ev⟩ := hv.ex
  ⟨_, ps_fld po pv hs, fun ws H s σ ρ out E S N h q => (ev.st) S N h q fun v s1 k1 vv ws1 H1 t1 S1 r1 => (eo.st) S1 (N.stp t1) k1 (q.stp t1) fun od s2 k2 ov ws2 H2 t2 S2 r2 => by
    obtain ⟨s3, k3, rfl⟩ := Option.map_eq_some_iff.mp k2
    unfold setF at k3
    split at k3
    · rename_i l
      split at k3
      · rename_i c' ns vs hl
        split at k3
        · rename_i hc
          cases k3
          obtain ⟨a', ha, rfl⟩ := r2
          obtain ⟨o, h3, h4⟩ := S2.own l a' _ ha hl
          cases o with
          | ins Cc dx fs =>
            obtain ⟨e1, i1, i2, i3⟩ := h4
            subst e1
            obtain ⟨j1, j2, j3⟩ := putN_ok hn (r1.stp t2) (fun m hm => (i1.2 m hm).1) i2 i3
            subst hf
            rw [hK]
            have hcc := hc.1
            subst hcc
            have hlen : fs.length < 1000 := by
              have := congrArg List.length i2
              simp at this
              omega
            refine ⟨a', _, dx, fs, rfl, h3, i1.1.cl, hna, hlen, ?_⟩
            have SR : SoRel C.T ws2 (mask ws2 H2) (.ins (C.T.ad c') dx (putF (C.T.f n) vv fs)) (.ins c' (putN n v ns vs).1 (putN n v ns vs).2) := ⟨rfl, ⟨i1.1, fun m hm => (j3 m hm).elim (fun z => by rw [z]; exact ⟨hn, hna⟩) (i1.2 m)⟩, j1, j2⟩
            have t4 : Stp ws2 H2 ws2 (upd H2 a' (.ins (C.T.ad c') dx (putF (C.T.f n) vv fs))) := S2.stp_put ha
            exact q σ ws2 _ ((t1.trans t2).trans t4) (S2.put ha SR) (((N.stp t1).stp t2).stp t4)
          | _ => exact h4.elim
        · cases k3
      · cases k3
    · cases k3⟩

/-! ### making -/
def makeD (kp : Bool) (c : Nat) (m : FM) : FM := fun s xs => match m (s ++ [.ins c [] []]) (.own s.length :: xs) with
  | some (.ok .non s') => fin kp s.length (.own s.length) s'
  | some (.ex e s') => finX s.length e s'
  | _ => none
theorem de_make {x : Str} {n k : Nat} {m : FM} {fd : FuncData} {ps : List Str} {fI : Addr} (kp : Bool) (c : Nat) (tk : Takes X C.W) (Mk' : Mk X.K (C.T.ad c) fI) (IC : InsC C.T.K (C.T.ad c)) (F : FnOk X.prog X.w X.K X.mg X.base (L2.CX X.prog X.w) k fI fd ps (spF C.T (n + 1) m)) (hr : Room (k + 1) X.A) (hm : X.mg x = some (.ref (C.T.ad c))) (hb : Binds X.K fd ps [])
    (ha : DA X C (e :: es) fa) (hg : Gl X x := by rfl) (hdb : (x == ("__debug__" : Str)) = false := by decide)
    (he : starEach (e :: es) X.env = (false, eval e X.env) :: starEach es X.env := by rfl) (hpl : (backTo pos (starEach es X.env)).any (·.1) = false := by rfl) : DE X C (.Call (.Name x p) (e :: es) [] pos) (fCall n (makeD kp c m) fa) :=
  let ⟨_, pa, ea⟩ := ha.ex
  ⟨_, vm_pe_make Mk' F hr hg hm hb (passAt tk) pa hdb he hpl, fun ws H s σ ρ R Q S N h xx q => (ea.b) S N h xx fun xs s1 h vs ws1 H1 t1 S1 r1 => by
    split at h
    · rename_i hl
      intro y dx hy hdx hne
      unfold makeD at h
      -- the new object
      have tA : Stp ws1 H1 ws1 (upd H1 dx (.own y)) := S1.stp_new hdx
      have SA : Sta C.T ws1 (upd H1 dx (.own y)) s1 := S1.new hdx
      have hy2 : upd H1 dx (.own y) y = none := by rw [upd_ne (Ne.symm hne)]; exact hy
      have tB : Stp ws1 (upd H1 dx (.own y)) (ws1.add y) (upd (upd H1 dx (.own y)) y (.ins (C.T.ad c) dx [])) := SA.stp_own hy2
      have SB : Sta C.T (ws1.add y) (upd (upd H1 dx (.own y)) y (.ins (C.T.ad c) dx [])) (s1 ++ [.ins c [] []]) := SA.newOwn (so := .ins c [] []) hy2 ⟨rfl, ⟨IC, fun _ z => nomatch z⟩, rfl, rfl⟩
      have tAB := tA.trans tB
      have hlen : (V.ref y :: vs).length = n + 1 := by rw [List.length_cons, ← r1.length, hl]
      have rr : Reps C.T (ws1.add y) (mask (ws1.add y) (upd (upd H1 dx (.own y)) y (.ins (C.T.ad c) dx []))) (.own s1.length :: xs) (V.ref y :: vs) := ⟨_, _, rfl, rep_last SA, r1.stp tAB⟩
      split at h
      · rename_i s' hm'
        refine ⟨hlen, _, _, _, _, SB, rr, hm', True.intro, fun d s2 e v ws2 H2 t2 S2 r2 => ?_⟩
        cases e
        refine ⟨r2, ?_⟩
        obtain ⟨d3, s3, rfl⟩ := fin_res h
        have ro : Rep C.T ws2 (mask ws2 H2) (.own s1.length) (.ref y) := (rep_last (M := mask (ws1.add y) (upd (upd H1 dx (.own y)) y (.ins (C.T.ad c) dx []))) SA).stp t2
        obtain ⟨ws3, t3, S3, r3⟩ := fin_ok S1 (tAB.trans t2) S2 ro h
        exact q _ _ rfl _ ws3 H2 (t1.trans t3) S3 r3
      · rename_i e s' hm'
        refine ⟨hlen, _, _, _, _, SB, rr, hm', ?_, fun d s2 e => nomatch e⟩
        intro cls dx' ws2 H2 t2 S2 x2
        obtain ⟨s3, ws3, rfl, t3, S3, x3⟩ := finX_ok S1 (tAB.trans t2) S2 x2 h
        exact (xx.stp t1) cls dx' ws3 H2 t3 S3 x3
      · cases h
    · cases h⟩

/-! ### methods -/
/-- an instance of the class c -/
def fCl (c : Nat) (f : M D) : M D := bnd f fun x => got fun s => match insD s x with
  | some (c', _, _) => if c' = c then some x else none
  | none => none
def fMeth (c n : Nat) (m : FM) (fo : M D) (fa : M (List D)) : M D := bnd (fCl c fo) fun o => bnd fa fun xs => fun _ s => if xs.length = n then m s (o :: xs) else none
theorem bnd_fCl {β : Type} {c : Nat} {fo : M D} {k : D → M β} : bnd (fCl c fo) k = bnd fo fun x => bnd (got fun s => match insD s x with
  | some (c', _, _) => if c' = c then some x else none
  | none => none) k := by
  funext ρ s
  unfold fCl bnd
  cases fo ρ s with
  | none => rfl
  | some r => cases r <;> rfl
theorem lookup_none {T : Kt} {m : Str} (h : m ∉ T.fld) {ns : List Nat} (hb : ∀ q ∈ ns, q < T.fld.length) {fs : List (Str × V)} (e : fs.map (·.1) = ns.map T.f) : fs.lookup m = none := by
  cases hl : fs.lookup m with
  | none => rfl
  | some v =>
    have : m ∈ fs.map (·.1) := List.mem_map.mpr ⟨(m, v), PySem.mem_of_lookup hl, rfl⟩
    rw [e] at this
    obtain ⟨q, hq, rfl⟩ := List.mem_map.mp this
    refine absurd ?_ h
    unfold Kt.f
    rw [List.getD_eq_getElem?_getD, List.getElem?_eq_getElem (hb q hq)]
    exact List.getElem_mem _
theorem de_meth {m : Str} {n k : Nat} {mm : FM} {fd : FuncData} {ps : List Str} {g : Addr} {pl : Sem Bool} (c : Nat) (tk : Takes X C.W) (hm : Meth X.K (C.T.ad c) m g) (IC : InsC C.T.K (C.T.ad c)) (hmf : m ∉ C.T.fld) (F : FnOk X.prog X.w X.K X.mg X.base (L2.CX X.prog X.w) k g fd ps (spF C.T (n + 1) mm)) (hr : Room k X.A) (hb : Binds X.K fd ps [])
    (ho : DE X C o fo) (ha : DA X C (e :: es) fa)
    (hst : starEach (e :: es) X.env = (false, eval e X.env) :: starEach es X.env := by rfl) (hpl : (backTo pos (starEach es X.env)).any (·.1) = false := by rfl)
    (ht : eval (.Call (.Attribute o m apos) (e :: es) [] pos) X.env = (do
      let ov ← eval o X.env
      standAt apos.atName
      let (f, first) ← holding [ov] (getMethod ov m pl)
      callWith pos f first (backTo pos (starEach (e :: es) X.env)) (backToKw pos (keywordEach [] X.env))) := by rfl) (hK : X.K = C.T.K := by rfl) : DE X C (.Call (.Attribute o m apos) (e :: es) [] pos) (fMeth c n mm fo fa) :=
  let ⟨_, po, eo⟩ := ho.ex
  let ⟨_, pa, ea⟩ := ha.ex
  ⟨_, vm_pe_meth po (hK ▸ IC.cl) hm F hr hb (passAt tk) pa hst hpl ht, fun ws H s σ ρ R Q S N h xx q => by
    unfold fMeth at h
    rw [bnd_fCl] at h
    refine (eo.b) S N h xx fun x s1 h v ws1 H1 t1 S1 r1 => ?_
    obtain ⟨x', g1, hz⟩ := bnd_got h
    split at g1
    · rename_i c' ns ds hi
      split at g1
      · rename_i hc
        cases g1
        subst hc
        obtain ⟨a', dx, fs, rfl, k1, k2, k3, k4⟩ := ins_ok S1 r1 hi
        refine ⟨a', dx, fs, rfl, k1, lookup_none hmf (fun q hq => (k2.2 q hq).1) k3, (ea.b) S1 (N.stp t1) hz (xx.stp t1) fun xs s2 h vs ws2 H2 t2 S2 r2 => ?_⟩
        split at h
        · rename_i hl
          exact ⟨by rw [List.length_cons, ← r2.length, hl], ws2, s2, x :: xs, R, S2, ⟨_, _, rfl, r1.stp t2, r2⟩, h, xe_of (xx.stp (t1.trans t2)), fun d s' e v ws3 H3 t3 S3 r3 => q d s' e v ws3 H3 ((t1.trans t2).trans t3) S3 r3⟩
        · cases h
      · cases g1
    · cases g1⟩
def fMeth0 (c : Nat) (m : FM) (fo : M D) : M D := bnd (fCl c fo) fun o => fun _ s => m s [o]
theorem de_meth0 {m : Str} {k : Nat} {mm : FM} {fd : FuncData} {ps : List Str} {g : Addr} {pl : Sem Bool} (c : Nat) (tk : Takes X C.W) (hm : Meth X.K (C.T.ad c) m g) (IC : InsC C.T.K (C.T.ad c)) (hmf : m ∉ C.T.fld) (F : FnOk X.prog X.w X.K X.mg X.base (L2.CX X.prog X.w) k g fd ps (spF C.T 1 mm)) (hr : Room k X.A) (hb : Binds X.K fd ps [])
    (ho : DE X C o fo)
    (ht : eval (.Call (.Attribute o m apos) [] [] pos) X.env = (do
      let ov ← eval o X.env
      standAt apos.atName
      let (f, first) ← holding [ov] (getMethod ov m pl)
      callWith pos f first (backTo pos (starEach [] X.env)) (backToKw pos (keywordEach [] X.env))) := by rfl) (hK : X.K = C.T.K := by rfl) : DE X C (.Call (.Attribute o m apos) [] [] pos) (fMeth0 c mm fo) :=
  let ⟨_, po, eo⟩ := ho.ex
  ⟨_, vm_pe_meth0 po (hK ▸ IC.cl) hm F hr hb (passAt tk) ht, fun ws H s σ ρ R Q S N h xx q => by
    unfold fMeth0 at h
    rw [bnd_fCl] at h
    refine (eo.b) S N h xx fun x s1 h v ws1 H1 t1 S1 r1 => ?_
    obtain ⟨x', g1, hz⟩ := bnd_got h
    split at g1
    · rename_i c' ns ds hi
      split at g1
      · rename_i hc
        cases g1
        subst hc
        obtain ⟨a', dx, fs, rfl, k1, k2, k3, k4⟩ := ins_ok S1 r1 hi
        exact ⟨a', dx, fs, rfl, k1, lookup_none hmf (fun q hq => (k2.2 q hq).1) k3, rfl, ws1, s1, [x], R, S1, ⟨_, _, rfl, r1, rfl⟩, hz, xe_of (xx.stp t1), fun d s' e v ws3 H3 t3 S3 r3 => q d s' e v ws3 H3 (t1.trans t3) S3 r3⟩
      · cases g1
    · cases g1⟩
def fCall0 (m : FM) : M D := fun _ s => m s []
theorem de_call0 {x : Str} {k : Nat} {m : FM} {fd : FuncData} {ps : List Str} {f : Addr} (tk : Takes X C.W) (F : FnOk X.prog X.w X.K X.mg X.base (L2.CX X.prog X.w) k f fd ps (spF C.T 0 m)) (hr : Room k X.A) (hm : X.mg x = some (.ref f)) (hk : PySem.W.keepIn X.K (.ref f) = true) (hb : Binds X.K fd ps [])
    (hg : Gl X x := by rfl) (hdb : (x == ("__debug__" : Str)) = false := by decide) : DE X C (.Call (.Name x p) [] [] pos) (fCall0 m) :=
  ⟨_, vm_pe_call0 F hr hg hm hk hb (passAt tk) hdb, fun ws H s σ ρ R Q S N h xx q => ⟨rfl, ws, s, [], R, S, rfl, h, xe_of xx, fun d s' e v ws2 H2 t2 S2 r2 => q d s' e v ws2 H2 t2 S2 r2⟩⟩
end
end
end VM
set_option Elab.async false
set_option maxRecDepth 100000
set_option maxHeartbeats 4000000
set_option linter.all false
set_option autoImplicit false
/-! == and != of instances by their own __eq__. -/
namespace PySem.W
open PySem PySem.Calls PyProof.Rows
section
variable {prog : Program} {w : World} {A : Around} {E : Value → Shared → Prop} {s : Shared} {K : Frag} {x C L f : Addr} {h₀ : Heap} {m : Str → Option Value} {ox : Obj} {od : Option Obj} {b tb : Value}
theorem vm_objNe {Q : Fin → Shared → Prop} (hu : A.units < cLine) (X : K.In s.heap) (I : InstAt s.heap x ox C od) (hs : findIn K (.ref C) "__eq__" = some (some (.ref f))) (hf : isFn K (.ref f) = true)
    (h : wpAny (model prog w) A (call (.ref f) [.ref x, b]) (fun v s' => ∃ c, v = .bool c ∧ Q (.done (.ret (.bool (!c)))) s') E s) : wpAny (model prog w) A (Builtin.«object.__ne__» ⟨[.ref x, b], []⟩) Q E s := by
  unfold Builtin.«object.__ne__»
  refine wpAny_bind (wpAny_of_eq (a := ((Value.ref x : Value), [b])) (by first | rfl | (simp only [slotArgs]; rfl)) ?_)
  refine wpAny_bind (wpAny_cRoomFor hu ?_)
  refine wpAny_bind (ifBound_K X I hs hf (wpAny_mono h (fun v s' hv => ?_) fun _ _ e => e))
  obtain ⟨c, rfl, q⟩ := hv
  exact wpAny_bind (wpAny_truthy_bool (wpAny_pure q))
theorem vm_ifBound {name : Str} {id : String} {args : List Value} {T : String} {Q : Option Value → Shared → Prop} (S : PySem.Slot T name id) (X : K.In s.heap) (I : InstAt s.heap x ox C od) (hs : findIn K (.ref C) name = some (some (.builtin id)))
    (h : wpAny (model prog w) A (call (.builtin id) (.ref x :: args)) (fun v => Q (some v)) E s) : wpAny (model prog w) A (callSpecialIfBound? (.ref x) name args) Q E s := by
  simp only [callSpecialIfBound?, bindSpecialIfBound?]
  refine wpAny_holding (wpAny_bind (wpAny_bind (wpAny_bind (I.type.here ((looks_findIn X hs).here ?_)))))
  refine wpAny_bind (wpAny_askSetting (wpAny_ite ?_))
  have fin : wpAny (model prog w) A (call (.builtin id) ([.ref x] ++ args) >>= fun v => pure (some v)) Q E s := wpAny_bind (wpAny_mono h (fun v s' h' => wpAny_pure h') fun _ _ h' => h')
  split
  · exact wpAny_bind (wpAny_of_eq (S.bind _) (wpAny_pure (by exact fin)))
  · exact wpAny_tryCatch (wpAny_bind (wpAny_of_eq (S.bind _) (wpAny_pure (by exact fin))))
theorem vm_ne_K {Q : Value → Shared → Prop} (hu : A.units + 1 < cLine) (F : Fr h₀ L s.heap m) (X₀ : K.In h₀) (I : InstAt s.heap x ox C od) (hb : Looks (model prog w) s.heap (typeOf b) tb) (hn : notFirst K C tb = true)
    (hne : findIn K (.ref C) "__ne__" = some (some (.builtin "object.__ne__"))) (hm : mroIn K C (.type "object") = some true) (hs : findIn K (.ref C) "__eq__" = some (some (.ref f))) (hf : isFn K (.ref f) = true)
    (h : wpAny (model prog w) A.in1 (call (.ref f) [.ref x, b]) (fun v s' => ∃ c, v = .bool c ∧ Q (.bool (!c)) s') E s) : wpAny (model prog w) A (richCompare .NotEq (.ref x) b) Q E s := by
  have X := X₀.keeps F.keep
  have one : wpAny (model prog w) A (tryCompare (.ref x) (cmpInfo .NotEq).2.1 b) (fun r s' => ∃ v, r = some v ∧ Q v s') E s := by
    unfold tryCompare
    refine wpAny_bind (vm_ifBound PySem.F.cmp_object.ne X I hne ?_)
    refine wpAny_call (codeAny_call_builtin PySem.F.cmp_object.ne.plain PySem.F.cmpEntry_ne (check_slot PySem.F.cmpKind_ne PySem.F.cmpSplit_ne (I.type.andThen (looks_mroIn X hm)) (PySem.F.cmpArgs_ne _ _) ?_))
    refine vm_objNe (A := A.in1) hu X I hs hf (wpAny_mono h (fun v s' z => ?_) fun _ _ e => e)
    obtain ⟨c, rfl, q⟩ := z
    exact ⟨c, rfl, wpAny_pure ⟨_, rfl, q⟩⟩
  unfold richCompare
  simp only [oneThing_ref]
  refine wpAny_holding (wpAny_bind (wpAny_cRoomFor (Nat.lt_of_succ_lt hu) ?_))
  refine wpAny_bind (I.type.here (wpAny_bind (hb.here ?_)))
  split
  · rename_i q
    have e : subIn K tb (.ref C) = some false := by
      rcases Bool.or_eq_true_iff.mp hn with e | e
      · rw [beq_iff_eq.mp e] at q; simp at q
      · exact beq_iff_eq.mp e
    refine wpAny_bind ((looks_subIn X e).here ?_)
    simp only [Bool.false_eq_true, if_false]
    refine wpAny_bind (wpAny_mono one (fun r s' z => ?_) fun _ _ e => e)
    obtain ⟨v, rfl, hq⟩ := z
    exact wpAny_pure hq
  · refine wpAny_bind (wpAny_pure ?_)
    simp only [Bool.false_eq_true, if_false]
    refine wpAny_bind (wpAny_mono one (fun r s' z => ?_) fun _ _ e => e)
    obtain ⟨v, rfl, hq⟩ := z
    exact wpAny_pure hq
end
end PySem.W
namespace L2
open PySem PySem.Spec PyProof.Rows
def rEqI (neg : Bool) (C : Addr) (sp : Sp) : R2 := fun x y H Q => ∃ a b dx dy fs gs, x = .ref a ∧ y = .ref b ∧ H a = some (.ins C dx fs) ∧ H b = some (.ins C dy gs) ∧ sp [.ref a, .ref b] H (fun v H' => ∃ c : Bool, v = .bl c ∧ Q (.bl (c != neg)) H') E0
section
variable {X : Cx} {n : Nat} {f C : Addr} {fd : FuncData} {ps : List Str} {sp : Sp}
theorem run_eqI {A : Around} {pins : List (Addr × Obj)} {s : Shared} {σ : St} {H : Hp} {a b : Addr} {Q : Value → Shared → Prop} {Q' : VK} (F : FnOk X.prog X.w X.K X.mg X.base (L2.CX X.prog X.w) n f fd ps sp) (hb : Binds X.K fd ps []) (hr : Room n A) (hfr : A.frames = X.A.frames) (I : Inv X pins σ H s)
    (h : sp [.ref a, .ref b] H Q' E0) (hq : ∀ v H' u s', Inv X pins σ H' s' → RelV v u → Q' v H' → Q u s') : wpAny (model X.prog X.w) A (call (.ref f) [.ref a, .ref b]) Q X.xe s := by
  have e0 : Env0 X.prog X.w X.K X.mg X.base A X.stack s H := by
    have e := I.env0
    exact ⟨by rw [hfr]; exact e.frames, e.mod, e.bs, e.bsz, e.funs, e.frf, e.hok, e.bare⟩
  have hl := F.len _ _ _ _ h
  have r2 : Vals [V.ref a, V.ref b] [Value.ref a, Value.ref b] := .cons rfl (.cons rfl .nil)
  refine wpAny_call (codeAny_mono (F.run A X.stack s H ⟨[.ref a, .ref b], []⟩ [.ref a, .ref b] [.ref a, .ref b] _ E0 hr e0 (by
    have := hb s [.ref a, .ref b] I.kIn (by simpa using hl)
    simpa using this) r2 h) fun r s' hq' => ?_)
  cases r with
  | error e =>
    obtain ⟨_, _, _, _, _, _, _, _, _, _, _, _, z⟩ := hq'
    exact z.elim
  | ok fl =>
    cases fl with
    | ret w =>
      obtain ⟨z, H', I', rz, ez⟩ := I.after hq'
      exact hq z H' w s' I' rz ez
    | next => exact False.elim hq'
    | brk => exact False.elim hq'
    | cont => exact False.elim hq'
theorem op_eqI (F : FnOk X.prog X.w X.K X.mg X.base (L2.CX X.prog X.w) n f fd ps sp) (hs : PySem.W.findIn X.K (.ref C) "__eq__" = some (some (.ref f))) (hf : PySem.W.isFn X.K (.ref f) = true) (hb : Binds X.K fd ps []) (hr : Room n X.A) : OpR X (compareOp .Eq) (rEqI false C sp) := by
  intro pins s σ H x y v u Q I rx ry hh
  obtain ⟨a, b, dx, dy, fs, gs, rfl, rfl, ha, hb', hsp⟩ := hh
  cases rx
  cases ry
  obtain ⟨mA, J, _⟩ := ins_get I.hok ha
  obtain ⟨mB, J', _⟩ := ins_get I.hok hb'
  obtain ⟨od, J, _⟩ := J.look
  obtain ⟨od', J', _⟩ := J'.look
  obtain ⟨m, hF⟩ := I.fr
  show wpAny (model X.prog X.w) X.A (richCompare .Eq (.ref a) (.ref b)) (EP X pins σ Q) X.xe s
  refine PySem.W.cmp_K (op := .Eq) (tb := .ref C) hr.units0 hF I.ok.mod.kin J J'.type (by simp [PySem.W.notFirst]) hs hf ?_
  refine run_eqI F hb hr rfl I hsp fun v H' u s' I' r q => ?_
  obtain ⟨c, rfl, q⟩ := q
  cases r
  rw [Bool.bne_false] at q
  exact ⟨.bl c, H', I', rfl, q⟩
theorem op_neI (F : FnOk X.prog X.w X.K X.mg X.base (L2.CX X.prog X.w) n f fd ps sp) (hs : PySem.W.findIn X.K (.ref C) "__eq__" = some (some (.ref f))) (hne : PySem.W.findIn X.K (.ref C) "__ne__" = some (some (.builtin "object.__ne__"))) (hm : PySem.W.mroIn X.K C (.type "object") = some true)
    (hf : PySem.W.isFn X.K (.ref f) = true) (hb : Binds X.K fd ps []) (hr : Room (n + 1) X.A) : OpR X (compareOp .NotEq) (rEqI true C sp) := by
  intro pins s σ H x y v u Q I rx ry hh
  obtain ⟨a, b, dx, dy, fs, gs, rfl, rfl, ha, hb', hsp⟩ := hh
  cases rx
  cases ry
  obtain ⟨mA, J, _⟩ := ins_get I.hok ha
  obtain ⟨mB, J', _⟩ := ins_get I.hok hb'
  obtain ⟨od, J, _⟩ := J.look
  obtain ⟨od', J', _⟩ := J'.look
  obtain ⟨m, hF⟩ := I.fr
  show wpAny (model X.prog X.w) X.A (richCompare .NotEq (.ref a) (.ref b)) (EP X pins σ Q) X.xe s
  refine PySem.W.vm_ne_K (tb := .ref C) (by have := hr.un; omega) hF I.ok.mod.kin J J'.type (by simp [PySem.W.notFirst]) hne hm hs hf ?_
  refine run_eqI F hb hr.in1 rfl I hsp fun v H' u s' I' r q => ?_
  obtain ⟨c, rfl, q⟩ := q
  cases r
  rw [Bool.bne_true] at q
  exact ⟨c, rfl, .bl (!c), H', I', rfl, q⟩
end
end L2
namespace VM
open PySem L2
noncomputable section
/-- as OpS, the store behind told too -/
def OpM (T : Kt) (r : R2) (g : Sto → D → D → Option (D × Sto)) : Prop := ∀ (ws : Ws) (H : Hp) (s : Sto) (x y z : D) (s' : Sto) (v u : V) (Q : VK), Sta T ws H s → Rep T ws (mask ws H) x v → Rep T ws (mask ws H) y u → g s x y = some (z, s') →
  (∀ w ws' H', Stp ws H ws' H' → Sta T ws' H' s' → Rep T ws' (mask ws' H') z w → Q w H') → r v u H Q
def upM (g : G2) : Sto → D → D → Option (D × Sto) := fun s x y => (g s x y).map fun z => (z, s)
def orM (g g' : Sto → D → D → Option (D × Sto)) : Sto → D → D → Option (D × Sto) := fun s x y => match g s x y with
  | some z => some z
  | none => g' s x y
theorem OpS.up {T : Kt} {r : R2} {g : G2} (h : OpS T r g) : OpM T r (upM g) := fun ws H s x y z s' v u Q S r1 r2 e q => by
  obtain ⟨z', e1, e2⟩ := Option.map_eq_some_iff.mp e
  cases e2
  exact h ws H s x y _ v u Q S r1 r2 e1 q
theorem OpM.or {T : Kt} {r r' : R2} {g g' : Sto → D → D → Option (D × Sto)} (h : OpM T r g) (h' : OpM T r' g') : OpM T (fun x y H Q => r x y H Q ∨ r' x y H Q) (orM g g') := fun ws H s x y z s' v u Q S r1 r2 e q => by
  unfold orM at e
  split at e
  · rename_i e1
    cases e
    exact .inl (h ws H s x y _ _ v u Q S r1 r2 e1 q)
  · exact .inr (h' ws H s x y z s' v u Q S r1 r2 e q)
/-- own ==: the class, its __eq__ -/
def eqI (neg : Bool) (c : Nat) (m : FM) : Sto → D → D → Option (D × Sto) := fun s x y => match insD s x, insD s y with
  | some (c1, _, _), some (c2, _, _) => if c1 = c ∧ c2 = c then match m s [x, y] with
    | some (.ok (.bl b) s') => some (.bl (b != neg), s')
    | _ => none
    else none
  | _, _ => none
theorem opm_eqI {T : Kt} {neg : Bool} {c : Nat} {m : FM} : OpM T (rEqI neg (T.ad c) (spF T 2 m)) (eqI neg c m) := fun ws H s x y z s' v u Q S r1 r2 e q => by
  unfold eqI at e
  split at e
  · rename_i c1 n1 d1 c2 n2 d2 h1 h2
    split at e
    · rename_i hc
      obtain ⟨rfl, rfl⟩ := hc
      split at e
      · rename_i b s2 hm
        cases e
        obtain ⟨a, dx, fs, rfl, k1, _⟩ := ins_ok S r1 h1
        obtain ⟨a', dx', fs', rfl, k1', _⟩ := ins_ok S r2 h2
        refine ⟨a, a', dx, dx', fs, fs', rfl, rfl, k1, k1', rfl, ws, s, [x, y], _, S, ⟨_, _, rfl, r1, _, _, rfl, r2, rfl⟩, hm, True.intro, fun d s3 e v ws' H' t S' r' => ?_⟩
        cases e
        cases r'
        exact ⟨b, rfl, q _ ws' H' t S' rfl⟩
      · cases e
    · cases e
  · cases e
section
variable {X : Cx} {C : Cn} {a b e : Expr} {fa fb : M D} {pos p : Pos}
def fOpM (g : Sto → D → D → Option (D × Sto)) (fa fb : M D) : M D := bnd fa fun x => bnd fb fun y => fun _ s => (g s x y).map fun z => .ok z.1 z.2
theorem ev_opM {ta tb : TE} {r : R2} {g : Sto → D → D → Option (D × Sto)} (ha : EvS C ta fa) (hb : EvS C tb fb) (ho : OpM C.T r g) : EvS C (tOp r ta tb) (fOpM g fa fb) := fun ws H s σ ρ R Q S N h xx q =>
  (ha.b) S N h xx fun x s1 h v ws1 H1 t1 S1 r1 => (hb.b) S1 (N.stp t1) h (xx.stp t1) fun y s2 h u ws2 H2 t2 S2 r2 => by
    obtain ⟨⟨z, s3⟩, h3, rfl⟩ := Option.map_eq_some_iff.mp h
    exact ho ws2 H2 _ x y z s3 v u Q S2 (r1.stp t2) r2 h3 fun w ws' H' t3 S3 r3 => q _ _ rfl w ws' H' ((t1.trans t2).trans t3) S3 r3
theorem de_cmpM {op : CmpOp} {r : R2} {gg : Sto → D → D → Option (D × Sto)} (hr : OpR X (compareOp op) r) (ho : OpM C.T r gg) (ha : DE X C a fa) (hb : DE X C b fb) (hm : behindInMarks op b = false) : DE X C (.Compare a [op] [b] pos) (fOpM gg fa fb) :=
  let ⟨_, pa, ea⟩ := ha.ex
  let ⟨_, pb, eb⟩ := hb.ex
  ⟨_, pe_cmpR hr pa pb hm, ev_opM ea eb ho⟩
theorem dt_cmpM {op : CmpOp} {r : R2} {gg : Sto → D → D → Option (D × Sto)} (hr : OpR X (compareOp op) r) (ho : OpM C.T r gg) (ha : DE X C a fa) (hb : DE X C b fb) (hm : behindInMarks op b = false) : DT X C (.Compare a [op] [b] pos) (fBl (fOpM gg fa fb)) :=
  let ⟨_, pa, ea⟩ := ha.ex
  let ⟨_, pb, eb⟩ := hb.ex
  ⟨_, pt_cmpR hr pa pb hm, ev_test (ev_opM ea eb ho)⟩
end
end
end VM
set_option Elab.async false
set_option maxRecDepth 100000
set_option maxHeartbeats 4000000
set_option linter.all false
set_option autoImplicit false
/-! Sets of ints out of lists. -/
namespace L2
open PySem PySem.Spec PyProof.Rows
section
variable {P : Program} {w : World} {A : Around} {E : Value → Shared → Prop} {s : Shared}
abbrev vmS (w : World) : Obj := { cls := .type "set", dict := none, data := .set #[] 0 (.fresh 0 0 (!w.params.followText "set-order")) }
theorem vm_set_list {l : Addr} {items : Array Value} (ns : List Int) {Q : Value → Shared → Prop} (hh : A.handled = none) (hl : s.heap.IsList l items) (hit : IntsAre items.toList ns) (hb : ns.length + 1 < scanBound)
    (h : ∀ (h' : Heap) (tk c : Nat), SetR w h' s.heap.objs.size (fun j => decide (j ∈ ns)) c → c ≤ ns.length → (∀ b o, s.heap.get? b = some o → h'.get? b = some o) → Q (.ref s.heap.objs.size) { s with heap := h', toks := tk }) :
    wpAny (model P w) A (call (.type "set") [.ref l]) Q E s := by
  have hz : items.size = ns.length := by rw [← Array.length_toList]; exact IntsAre.length hit
  -- type.__call__: set.__new__, then set.__init__
  obtain ⟨c, tl, hmro⟩ := F.called_set.mro
  have z1 := F.called_set.made
  have z2 := F.called_set.sub
  have z3 := F.called_set.notType
  have z4 := F.called_set.canCreate
  have z5 := F.typeCall_set_1 (.ref l)
  refine wpAny_call (codeAny_of_tree (show wpAny _ _ (callAny (.type "set") _) _ _ _ from wpAny_pure ⟨Code.quiet_builtin _ (by decide +kernel), codeAny_builtin F.entry_type_call ?_⟩))
  rw [Around.under_plain (weight_type_call_type "set" [.ref l] []) rfl]
  repeat (any_goals (first | assumption | wp_step))
  refine codeAny_mono (code_set_led1 (.ref l) (E := E) (Q₁ := fun obj s₁ => obj = .ref s.heap.objs.size ∧ s₁ = { s with heap := s.heap.push (vmS w) }) ⟨rfl, rfl⟩) fun r s₁ hr => ?_
  match r, hr with
  | .error _, hr => exact hr
  | .ok .next, hr => exact hr.elim
  | .ok .brk, hr => exact hr.elim
  | .ok .cont, hr => exact hr.elim
  | .ok (.ret _), hr =>
  obtain ⟨rfl, rfl⟩ := hr
  have hS : (s.heap.push (vmS w)).get? s.heap.objs.size = some (vmS w) := Heap.get?_push_size _ rfl
  have hT : Shared.TypeIs { s with heap := s.heap.push (vmS w) } (.ref s.heap.objs.size) "set" := ⟨_, hS, rfl⟩
  have z6 := F.called_set.init.lookup
  have z7 := F.called_set.init.bind (.ref s.heap.objs.size)
  repeat (any_goals (first | assumption | wp_step))
  refine codeAny_mono (codeAny_call_builtin (R := wants (fun r s₂ => r = .none ∧ Q (.ref s.heap.objs.size) s₂) E) F.called_set.init.plain F.entry_set_init (check_set_init_1 hT ?_)) fun r₂ s₂ hr₂ => ?_
  rotate_left
  · match r₂, hr₂ with
    | .error _, hr₂ => exact hr₂
    | .ok .next, hr₂ => exact hr₂.elim
    | .ok .brk, hr₂ => exact hr₂.elim
    | .ok .cont, hr₂ => exact hr₂.elim
    | .ok (.ret _), hr₂ =>
      obtain ⟨rfl, q⟩ := hr₂
      repeat (any_goals (first | assumption | wp_step))
  have hlt : l < s.heap.objs.size := by
    obtain ⟨o, e, _⟩ := hl
    exact Heap.lt_size e
  have hl1 : (s.heap.push (vmS w)).IsList l items := hl.push _
  obtain ⟨⟨oc, od, dt, sl⟩, hol, hcl, nl, hdl⟩ := id hl1
  simp only at hcl hdl
  subst hcl hdl
  have f1 := F.sub_list_set
  have f2 := F.sub_list_frozenset
  have f3 : (Value.type "list" == Value.type "dict") = false := by decide
  unfold Builtin.«set.__init__» noKeywords Builtin.Frozenset.updateFrom
  generalize hPI : pyIter = PI
  wp_walk
  subst hPI
  refine wpAny_pyIter_list hl1 ?_
  refine wpAny_bind (wpAny_runValue ?_)
  have hI : (s.heap.push (vmS w)).objs.size = s.heap.objs.size + 1 := Heap.size_push ..
  have hne : l ≠ (s.heap.push (vmS w)).objs.size := by rw [hI]; exact Nat.ne_of_lt (Nat.lt_succ_of_lt hlt)
  have hSf : s.heap.objs.size ∉ [(s.heap.push (vmS w)).objs.size, l] := by
    rw [hI]
    simp only [List.mem_cons, List.not_mem_nil, or_false, not_or]
    exact ⟨Nat.ne_of_lt (Nat.lt_succ_self _), Nat.ne_of_gt hlt⟩
  refine set_update_ints ((Walks.list (by simp [hh]) _ l hne items).toS) s.heap.objs.size hSf ns hz hb (fun i v hv => ?_) (items.size - 0) 0 _ (by omega) (Nat.zero_le _) ⟨⟨_, Heap.get?_push_size _ rfl, rfl, rfl⟩, hl1.push _⟩ ⟨0, Nat.le_refl 0, setR_new_at (Heap.get?_push_of_some _ hS)⟩ fun s' c hm hc hR => ?_
  · have hi : i < ns.length := by rw [← hz]; exact (Array.getElem?_eq_some_iff.mp hv).1
    obtain ⟨t, e⟩ := PyProof.Rows.IntsAre.int_at hit i v (by rw [Array.getElem?_toList]; exact hv)
    exact ⟨ns[i], t, List.getElem?_eq_getElem hi, by rw [e, List.getD_eq_getElem?_getD, List.getElem?_eq_getElem hi] <;> rfl⟩
  · have e : s' = { s with heap := s'.heap, toks := s'.toks } := by
      have e1 := hm.gens
      have e2 := hm.drawn
      have e3 := hm.os
      cases s'
      cases s
      simp only at e1 e2 e3
      subst e1 e2 e3
      rfl
    rw [e]
    refine wpAny_pure (wpAny_pure ⟨rfl, h _ _ c hR (hz ▸ hc) fun b o eb => ?_⟩)
    have hb0 := Heap.lt_size eb
    refine hm.heap b o ?_ (Heap.get?_push_of_some _ (Heap.get?_push_of_some _ eb))
    simp only [List.mem_cons, List.not_mem_nil, or_false, not_or]
    exact ⟨Nat.ne_of_lt hb0, by rw [hI]; exact Nat.ne_of_lt (Nat.lt_succ_of_lt hb0)⟩
end
end L2
set_option Elab.async false
set_option maxRecDepth 100000
set_option maxHeartbeats 4000000
set_option linter.all false
set_option autoImplicit false
/-! set, sorted, min, max, str. -/
namespace L2
open PySem PySem.Spec PyProof.Rows
theorem setR_card {w : World} {h : Heap} {a : Addr} {S : Int → Bool} {n : Nat} (R : SetR w h a S n) {l : List Int} (nd : l.Nodup) (m : ∀ k, k ∈ l ↔ S k = true) : n = l.length := by
  obtain ⟨o, es, ep, t, _, _, _, _, nd2, hm, _, _, hn, _⟩ := R
  have p := (List.perm_ext_iff_of_nodup nd nd2).mpr fun k => (m k).trans (hm k)
  rw [← hn, p.length_eq, List.length_map, Array.length_toList]
theorem vm_or {X : Cx} {f : Value} {r r' : List V → Hp → VK → Prop} (h : CallR X f r) (h' : CallR X f r') : CallR X f (fun vs H Q => r vs H Q ∨ r' vs H Q) := fun pins s σ H vs us Q I rv q => q.elim (h pins s σ H vs us Q I rv) (h' pins s σ H vs us Q I rv)
section
variable {X : Cx}
/-- set(xs), xs a list of ints -/
def vmSetI (K : PySem.W.Frag) (w : World) : List V → Hp → VK → Prop := fun vs H Q => ∃ (l : Addr) (ns : List Int), vs = [V.ref l] ∧ SqL K H l (ns.map V.int) ∧ ns.length ≤ 4000 ∧ ∀ a n, H a = none → (∀ l : List Int, l.Nodup → (∀ k, k ∈ l ↔ k ∈ ns) → n = l.length) → Q (.ref a) (upd H a (SetO w a (fun j => decide (j ∈ ns)) n))
theorem vm_setI (hc : X.calm = true) : CallR X (.type "set") (vmSetI X.K X.w) := by
  intro pins s σ H vs us Q I r h
  obtain ⟨l, ns, rfl, hs, hz, q⟩ := h
  obtain ⟨its, rv, hl, _⟩ := I.list hs
  rw [Vals.ref1 r]
  refine vm_set_list (P := X.prog) (w := X.w) ns (I.ok.hd hc) hl.isList (by simpa using rv.ints) (by show ns.length + 1 < 4096; omega) fun h' tk c R hcz k => ?_
  exact ⟨.ref s.heap.objs.size, _, I.laid (t' := tk) k (Nat.le_refl _) (setO_new R), rfl, q _ c (I.hok.fresh (Nat.le_refl _)) fun l nd m => setR_card R nd fun k => by rw [m k, decide_eq_true_iff]⟩
end
end L2
namespace VM
open PySem L2
noncomputable section

/-! ### sorted rows of ints -/
def insI (x : Int) : List Int → List Int
  | [] => [x]
  | y :: r => if x ≤ y then x :: y :: r else y :: insI x r
def sortI : List Int → List Int
  | [] => []
  | x :: r => insI x (sortI r)
def dedI : List Int → List Int
  | [] => []
  | x :: r => if x ∈ r then dedI r else x :: dedI r
theorem insI_perm (x : Int) : ∀ l : List Int, (insI x l).Perm (x :: l)
  | [] => .refl _
  | y :: r => by
    unfold insI
    split
    · exact .refl _
    · exact ((insI_perm x r).cons y).trans (.swap x y r)
theorem sortI_perm : ∀ l : List Int, (sortI l).Perm l
  | [] => .refl _
  | x :: r => (insI_perm x _).trans ((sortI_perm r).cons x)
theorem insI_sorted (x : Int) : ∀ l : List Int, l.Pairwise (· ≤ ·) → (insI x l).Pairwise (· ≤ ·)
  | [], _ => by simp [insI]
  | y :: r, h => by
    obtain ⟨h1, h2⟩ := List.pairwise_cons.mp h
    unfold insI
    split
    · rename_i hx
      exact List.pairwise_cons.mpr ⟨fun z hz => by
        rcases List.mem_cons.mp hz with e | e
        · rw [e]; exact hx
        · exact Int.le_trans hx (h1 z e), h⟩
    · rename_i hx
      refine List.pairwise_cons.mpr ⟨fun z hz => ?_, insI_sorted x r h2⟩
      rcases List.mem_cons.mp ((insI_perm x r).mem_iff.mp hz) with e | e
      · rw [e]; omega
      · exact h1 z e
theorem sortI_sorted : ∀ l : List Int, (sortI l).Pairwise (· ≤ ·)
  | [] => List.Pairwise.nil
  | x :: r => insI_sorted x _ (sortI_sorted r)
theorem sorted_eq {a b : List Int} (h1 : a.Pairwise (· ≤ ·)) (h2 : b.Pairwise (· ≤ ·)) (p : a.Perm b) : a = b :=
  List.Perm.eq_of_pairwise (le := (· ≤ ·)) (fun _ _ _ _ h h' => Int.le_antisymm h h') h1 h2 p
theorem mem_dedI : ∀ (l : List Int) (x : Int), x ∈ dedI l ↔ x ∈ l
  | [], x => Iff.rfl
  | y :: r, x => by
    unfold dedI
    split
    · rename_i hy
      rw [mem_dedI r x, List.mem_cons]
      exact ⟨.inr, fun h => h.elim (fun e => e ▸ hy) id⟩
    · rw [List.mem_cons, List.mem_cons, mem_dedI r x]
theorem dedI_nodup : ∀ l : List Int, (dedI l).Nodup
  | [] => List.nodup_nil
  | y :: r => by
    unfold dedI
    split
    · exact dedI_nodup r
    · rename_i hy
      exact List.nodup_cons.mpr ⟨fun h => hy ((mem_dedI r y).mp h), dedI_nodup r⟩
theorem dedI_len : ∀ l : List Int, (dedI l).length ≤ l.length
  | [] => Nat.le_refl _
  | y :: r => by
    unfold dedI
    split
    · exact Nat.le_succ_of_le (dedI_len r)
    · exact Nat.succ_le_succ (dedI_len r)

/-! ### what they are of data -/
def setD (s : Sto) (x : D) : Option D := ((itL s x).bind intsD).bind fun ns => if ns.length ≤ 4000 then some (.set false ((dedI ns).map .int)) else none
theorem cs_set {T : Kt} : CallS T (vmSetI T.K T.w) (c1 setD) := fun ws H s xs z vs Q S r e q => by
  obtain ⟨x, rfl, e1⟩ := c1_some e
  obtain ⟨v, rfl, r1⟩ := reps_one r
  obtain ⟨ns, e2, e3⟩ := Option.bind_eq_some_iff.mp e1
  obtain ⟨ds, e4, e5⟩ := Option.bind_eq_some_iff.mp e2
  obtain ⟨a, ys, rfl, h1, h2⟩ := itL_ok S r1 e4
  have := intsD_ok h2 e5
  subst this
  split at e3
  · rename_i hz
    cases e3
    refine ⟨a, ns, rfl, h1, hz, fun p n hp hn => ?_⟩
    have t : Stp ws H ws (upd H p (SetO T.w p (fun j => decide (j ∈ ns)) n)) := S.stp_new hp
    refine q _ ws _ t (S.new hp) ⟨p, rfl, .inl ⟨rfl, _, n, S.at_new hp, dedI ns, rfl, dedI_nodup ns, ?_, ?_⟩⟩
    · rw [hn (dedI ns) (dedI_nodup ns) (mem_dedI ns)]
    · funext j
      exact decide_eq_decide.mpr (mem_dedI ns j).symm
  · cases e3
/-- sorted(..) of ints: a list, a set, the keys of a dict -/
def sortedD (s : Sto) (x : D) : Option D := match x with
  | .set false ds => (intsD ds).bind fun ns => if ns.length < 64 then some (.lst ((sortI ns).map .int)) else none
  | .dct false ks _ => (intsD ks).bind fun ns => if ns.length < 64 then some (.lst ((sortI ns).map .int)) else none
  | x => ((itL s x).bind intsD).map fun ns => .lst ((sortI ns).map .int)
def rSrt (K : PySem.W.Frag) (w : World) : List V → Hp → VK → Prop := fun vs H Q => rSortedI K vs H Q ∨ (rSortedSet w vs H Q ∨ ∃ (a : Addr) (kvs : List (Key × V)) (ks : List Int), vs = [.ref a] ∧ Rd H a (.dK kvs) ∧ kvs.map (·.1) = ks.map Sum.inl ∧ ks.length < 64 ∧
    ∀ (ys : List Int) (p : Addr), ys.Perm ks → ys.Pairwise (· ≤ ·) → H p = none → Q (.ref p) (upd H p (.lst (ys.map V.int))))
theorem cr_srt {X : Cx} (hc : X.calm = true) : CallR X (.builtin "sorted") (rSrt X.K X.w) := vm_or cr_sortedI (vm_or (cr_sortedSet hc) (call_sortedDI hc))
theorem reps_ints {T : Kt} {ws : Ws} {M : Hp} : ∀ ns : List Int, Reps T ws M (ns.map D.int) (ns.map V.int)
  | [] => rfl
  | n :: ns => ⟨.int n, ns.map V.int, rfl, rfl, reps_ints ns⟩
theorem intsD_map : ∀ ns : List Int, intsD (ns.map D.int) = some ns
  | [] => rfl
  | n :: ns => by
    show (intsD (ns.map D.int)).map (n :: ·) = _
    rw [intsD_map ns]
    rfl
theorem keyD_int {k : Key} {i : Int} (h : keyD k = .int i) : k = .inl i := by
  cases k with
  | inl j => cases h; rfl
  | inr x => cases h
theorem intsD_keys : ∀ {kvs : List (Key × V)} {ns : List Int}, intsD (kvs.map fun p => keyD p.1) = some ns → kvs.map (·.1) = ns.map Sum.inl
  | [], ns, h => by cases h; rfl
  | (k, v) :: r, ns, h => by
    simp only [List.map_cons] at h
    unfold intsD at h
    split at h
    · rename_i hh; cases hh
    · rename_i i ds' hh
      injection hh with h1 h2
      subst h2
      obtain ⟨ms, h3, rfl⟩ := Option.map_eq_some_iff.mp h
      rw [List.map_cons, List.map_cons, intsD_keys h3, keyD_int h1]
    · cases h
theorem intsD_tup {α : Type} {f : α → List D} : ∀ {l : List α} {ns : List Int}, intsD (l.map fun p => .tup (f p)) = some ns → l = []
  | [], _, _ => rfl
  | _ :: _, _, h => by cases h
theorem cs_srt {T : Kt} : CallS T (rSrt T.K T.w) (c1 sortedD) := fun ws H s xs z vs Q S r e q => by
  obtain ⟨x, rfl, e1⟩ := c1_some e
  obtain ⟨v, rfl, r1⟩ := reps_one r
  have fin : ∀ (ns ys : List Int) (p : Addr), ys.Perm ns → ys.Pairwise (· ≤ ·) → H p = none → some (D.lst ((sortI ns).map .int)) = some z → Q (.ref p) (upd H p (.lst (ys.map V.int))) := fun ns ys p h1 h2 hp ez => by
    cases ez
    have t : Stp ws H ws (upd H p (.lst (ys.map V.int))) := S.stp_new hp
    refine q _ ws _ t (S.new hp) ⟨p, _, rfl, S.at_new hp, ?_⟩
    rw [sorted_eq (sortI_sorted ns) h2 ((sortI_perm ns).trans h1.symm)]
    exact reps_ints ys
  have gen : ((itL s x).bind intsD).map (fun ns => D.lst ((sortI ns).map .int)) = some z → rSrt T.K T.w [v] H Q := fun e2 => by
    obtain ⟨ns, e3, e4⟩ := Option.map_eq_some_iff.mp e2
    obtain ⟨ds, e5, e6⟩ := Option.bind_eq_some_iff.mp e3
    obtain ⟨a, ys, rfl, h1, h2⟩ := itL_ok S r1 e5
    have := intsD_ok h2 e6
    subst this
    exact .inl ⟨a, ns, rfl, h1, fun ys p h3 h4 hp => fin ns ys p h3 h4 hp (by rw [e4])⟩
  cases x with
  | set t ds =>
    cases t with
    | true => cases e1
    | false =>
      obtain ⟨ns, e2, e3⟩ := Option.bind_eq_some_iff.mp e1
      split at e3
      · rename_i h64
        obtain ⟨a, rfl, ⟨_, S', n, h1, is, rfl, nd, hn, hS⟩ | ⟨z, _⟩⟩ := r1
        · rw [intsD_map] at e2
          cases e2
          refine .inr (.inl ⟨a, S', n, rfl, (mask_some h1).2, by omega, fun ys p h3 h4 h5 hp => ?_⟩)
          have nd2 : ys.Nodup := h3.imp fun h => Int.ne_of_lt h
          refine fin ns ys p ((List.perm_ext_iff_of_nodup nd2 nd).mpr fun k => ?_) (h3.imp fun h => Int.le_of_lt h) hp e3
          rw [h4 k, hS, decide_eq_true_iff]
        · cases z
      · cases e3
  | dct t ks ds =>
    cases t with
    | true => cases e1
    | false =>
      obtain ⟨ns, e2, e3⟩ := Option.bind_eq_some_iff.mp e1
      split at e3
      · rename_i h64
        obtain ⟨a, rfl, ⟨_, kvs, h1, rfl, h3⟩ | ⟨z, _⟩⟩ := r1
        · exact .inr (.inr ⟨a, kvs, ns, rfl, .of (mask_some h1).2, intsD_keys e2, h64, fun ys p h4 h5 hp => fin ns ys p h4 h5 hp e3⟩)
        · cases z
      · cases e3
  | lst ds => exact gen e1
  | lck ds => exact gen e1
  | own l => exact gen e1
  | _ => cases e1
end
end VM
set_option Elab.async false
set_option maxRecDepth 100000
set_option maxHeartbeats 4000000
set_option linter.all false
set_option autoImplicit false
/-! Dicts whose keys are ints and texts. -/
namespace VM
open PySem L2
noncomputable section

def keyK : D → Option Key
  | .int i => some (.inl i)
  | .str x => some (.inr x)
  | _ => none
theorem keyK_rep {T : Kt} {ws : Ws} {H : Hp} {d : D} {v : V} {k : Key} (r : Rep T ws H d v) (h : keyK d = some k) : v = kV k := by
  cases d <;> first | (cases h; done) | (cases h; cases r; rfl)
theorem keyK_keyD (k : Key) : keyK (keyD k) = some k := by cases k <;> rfl
/-- what stands at a key -/
def lookD (k : Key) : List D → List D → Option D
  | x :: ks, v :: vs => if keyK x = some k then some v else lookD k ks vs
  | _, _ => none
def hasK (k : Key) (ks : List D) : Bool := ks.any fun x => decide (keyK x = some k)
def putVs (k : Key) (z : D) : List D → List D → List D
  | x :: ks, v :: vs => (if keyK x = some k then z else v) :: putVs k z ks vs
  | _, _ => []
def kputD (k : Key) (z : D) (ks vs : List D) : List D × List D := if hasK k ks = true then (ks, putVs k z ks vs) else (ks ++ [keyD k], vs ++ [z])
/-- keys and values of a dict -/
def dctOf (s : Sto) : D → Option (List D × List D)
  | .dct false ks vs => some (ks, vs)
  | .own l => match s[l]? with
    | some (.dct false ks vs) => some (ks, vs)
    | _ => none
  | _ => none
theorem dctOf_ok {T : Kt} {ws : Ws} {H : Hp} {s : Sto} {d : D} {v : V} {ks vs : List D} (S : Sta T ws H s) (r : Rep T ws (mask ws H) d v) (h : dctOf s d = some (ks, vs)) :
    ∃ a kvs, v = .ref a ∧ H a = some (.dK kvs) ∧ ks = kvs.map (fun p => keyD p.1) ∧ Reps T ws (mask ws H) vs (kvs.map (·.2)) := by
  cases d with
  | dct t ks' vs' =>
    cases t with
    | true => cases h
    | false =>
      cases h
      obtain ⟨a, rfl, ⟨_, kvs, h1, h2, h3⟩ | ⟨z, _⟩⟩ := r
      · exact ⟨a, kvs, rfl, (mask_some h1).2, h2, h3⟩
      · cases z
  | own l =>
    obtain ⟨a, h1, rfl⟩ := r
    simp only [dctOf] at h
    split at h
    · rename_i e
      cases h
      obtain ⟨o, h2, h3⟩ := S.own l a _ h1 e
      cases o <;> first | exact h3.elim | skip
      · exact ⟨a, _, rfl, h2, h3.2.1, h3.2.2⟩
      · cases h3.1
    · cases h
  | _ => cases h
theorem lookD_ok {T : Kt} {ws : Ws} {H : Hp} (k : Key) : ∀ {kvs : List (Key × V)} {vs : List D}, Reps T ws H vs (kvs.map (·.2)) →
    (∀ z, lookD k (kvs.map fun p => keyD p.1) vs = some z → ∃ w, valV kvs k = some w ∧ Rep T ws H z w) ∧ (lookD k (kvs.map fun p => keyD p.1) vs = none → valV kvs k = none)
  | [], vs, _ => ⟨fun z h => by (cases vs <;> cases h), fun _ => rfl⟩
  | p :: kvs, [], r => by cases r
  | p :: kvs, d :: vs, ⟨v, r, hv, h1, h2⟩ => by
    rw [List.map_cons] at hv
    injection hv with e1 e2
    subst e1 e2
    have ih := lookD_ok k h2
    simp only [List.map_cons, lookD, keyK_keyD]
    by_cases e : p.1 = k
    · rw [if_pos (by rw [e]), valV_pos e]
      exact ⟨fun z hz => by cases hz; exact ⟨_, rfl, h1⟩, fun hz => by cases hz⟩
    · rw [if_neg (fun q => e (by injection q)), valV_neg e]
      exact ih
theorem hasK_any (k : Key) (kvs : List (Key × V)) : hasK k (kvs.map fun p => keyD p.1) = kvs.any fun p => decide (p.1 = k) := by
  unfold hasK
  rw [List.any_map]
  congr 1
  funext p
  simp only [Function.comp_apply, keyK_keyD, Option.some.injEq]
theorem putVs_ok {T : Kt} {ws : Ws} {H : Hp} (k : Key) {z : D} {w : V} (hz : Rep T ws H z w) : ∀ {kvs : List (Key × V)} {vs : List D}, Reps T ws H vs (kvs.map (·.2)) →
    Reps T ws H (putVs k z (kvs.map fun p => keyD p.1) vs) ((kvs.map fun kv => if kv.1 = k then (kv.1, w) else kv).map (·.2))
  | [], [], r => rfl
  | [], _ :: _, ⟨_, _, e, _⟩ => by cases e
  | p :: kvs, [], r => by cases r
  | p :: kvs, d :: vs, ⟨v, r, hv, h1, h2⟩ => by
    rw [List.map_cons] at hv
    injection hv with e1 e2
    subst e1 e2
    have ih := putVs_ok k hz h2
    simp only [List.map_cons, putVs, keyK_keyD]
    by_cases e : p.1 = k
    · rw [if_pos (by rw [e]), if_pos e]
      exact ⟨_, _, rfl, hz, ih⟩
    · rw [if_neg (fun q => e (by injection q)), if_neg e]
      exact ⟨_, _, rfl, h1, ih⟩
theorem map_repl (k : Key) (w : V) : ∀ kvs : List (Key × V), (kvs.map fun kv => if kv.1 = k then (kv.1, w) else kv).map (fun p => keyD p.1) = kvs.map fun p => keyD p.1
  | [] => rfl
  | p :: kvs => by
    rw [List.map_cons, List.map_cons, List.map_cons, map_repl k w kvs]
    by_cases e : p.1 = k
    · rw [if_pos e]
    · rw [if_neg e]
theorem kputD_ok {T : Kt} {ws : Ws} {H : Hp} {k : Key} {z : D} {w : V} {kvs : List (Key × V)} {vs : List D} (hz : Rep T ws H z w) (r : Reps T ws H vs (kvs.map (·.2))) :
    (kputD k z (kvs.map fun p => keyD p.1) vs).1 = (putK kvs k w).map (fun p => keyD p.1) ∧ Reps T ws H (kputD k z (kvs.map fun p => keyD p.1) vs).2 ((putK kvs k w).map (·.2)) := by
  unfold kputD putK
  rw [hasK_any]
  by_cases e : (kvs.any fun p => decide (p.1 = k)) = true
  · rw [if_pos e, if_pos e]
    exact ⟨(map_repl k w kvs).symm, putVs_ok k hz r⟩
  · rw [if_neg e, if_neg e, List.map_append, List.map_append]
    exact ⟨rfl, r.append ⟨w, [], rfl, hz, rfl⟩⟩

/-! ### d[k], k in d -/
def getD' (s : Sto) (x y : D) : Option D := (dctOf s x).bind fun p => (keyK y).bind fun k => lookD k p.1 p.2
def inD (s : Sto) (y x : D) : Option D := (dctOf s x).bind fun p => (keyK y).map fun k => .bl (lookD k p.1 p.2).isSome
def ninD (s : Sto) (y x : D) : Option D := (dctOf s x).bind fun p => (keyK y).map fun k => .bl (!(lookD k p.1 p.2).isSome)
theorem dget_ok {T : Kt} {ws : Ws} {H : Hp} {s : Sto} {x y : D} {v u : V} {p : List D × List D} {k : Key} (S : Sta T ws H s) (r1 : Rep T ws (mask ws H) x v) (r2 : Rep T ws (mask ws H) y u) (h1 : dctOf s x = some p) (h2 : keyK y = some k) :
    ∃ a o, v = .ref a ∧ DGet H a u o ∧ (match lookD k p.1 p.2 with | some z => ∃ w, o = some w ∧ Rep T ws (mask ws H) z w | none => o = none) := by
  obtain ⟨ks, vs⟩ := p
  obtain ⟨a, kvs, rfl, h3, rfl, h5⟩ := dctOf_ok S r1 h1
  have := keyK_rep r2 h2
  subst this
  refine ⟨a, valV kvs k, rfl, .k h3, ?_⟩
  obtain ⟨q1, q2⟩ := lookD_ok k h5
  show (match lookD k (kvs.map fun p => keyD p.1) vs with | some z => ∃ w, valV kvs k = some w ∧ Rep T ws (mask ws H) z w | none => valV kvs k = none)
  cases e : lookD k (kvs.map fun p => keyD p.1) vs with
  | some z => exact q1 z e
  | none => exact q2 e
abbrev rDGet : R2 := fun x y H Q => ∃ a v, x = .ref a ∧ DGet H a y (some v) ∧ Q v H
abbrev rDIn : R2 := fun y x H Q => ∃ a o, x = .ref a ∧ DGet H a y o ∧ Q (.bl o.isSome) H
abbrev rDNin : R2 := fun y x H Q => ∃ a o, x = .ref a ∧ DGet H a y o ∧ Q (.bl (!o.isSome)) H
theorem ops_dget {T : Kt} : OpS T rDGet getD' := fun ws H s x y z v u Q S r1 r2 e q => by
  obtain ⟨p, h1, e⟩ := Option.bind_eq_some_iff.mp e
  obtain ⟨k, h2, e⟩ := Option.bind_eq_some_iff.mp e
  obtain ⟨a, o, rfl, g, m⟩ := dget_ok S r1 r2 h1 h2
  rw [e] at m
  obtain ⟨w, rfl, rw'⟩ := m
  exact ⟨a, w, rfl, g, q _ ws H (Stp.refl _ _) S rw'⟩
theorem lk_is {T : Kt} {ws : Ws} {H : Hp} {l : Option D} {o : Option V} (m : match l with | some z => ∃ w, o = some w ∧ Rep T ws (mask ws H) z w | none => o = none) : l.isSome = o.isSome := by
  cases l with
  | some z => obtain ⟨w, rfl, _⟩ := m; rfl
  | none => cases m; rfl
theorem ops_din {T : Kt} : OpS T rDIn inD := fun ws H s x y z v u Q S r1 r2 e q => by
  obtain ⟨p, h1, e⟩ := Option.bind_eq_some_iff.mp e
  obtain ⟨k, h2, rfl⟩ := Option.map_eq_some_iff.mp e
  obtain ⟨a, o, rfl, g, m⟩ := dget_ok S r2 r1 h1 h2
  exact ⟨a, o, rfl, g, q _ ws H (Stp.refl _ _) S (by rw [lk_is m]; rfl)⟩
theorem ops_dnin {T : Kt} : OpS T rDNin ninD := fun ws H s x y z v u Q S r1 r2 e q => by
  obtain ⟨p, h1, e⟩ := Option.bind_eq_some_iff.mp e
  obtain ⟨k, h2, rfl⟩ := Option.map_eq_some_iff.mp e
  obtain ⟨a, o, rfl, g, m⟩ := dget_ok S r2 r1 h1 h2
  exact ⟨a, o, rfl, g, q _ ws H (Stp.refl _ _) S (by rw [lk_is m]; rfl)⟩
/-- one of two ways to read an operator -/
theorem bnd_ex {α β : Type} {f : M α} {k k' : α → M β} {ρ : Rho} {s : Sto} {r : Res β} (h : bnd f k ρ s = some r) : (∃ e s1, f ρ s = some (.ex e s1) ∧ r = .ex e s1) ∨ ∃ x s1, f ρ s = some (.ok x s1) ∧ k x ρ s1 = some r := by
  unfold bnd at h
  split at h
  · rename_i x s1 e; exact .inr ⟨x, s1, e, h⟩
  · rename_i e s1 e1; cases h; exact .inl ⟨e, s1, e1, rfl⟩
  · cases h
theorem fOp_or {g g' : G2} {fa fb : M D} {ρ : Rho} {s : Sto} {r : Res D} (h : fOp (fun s x y => (g s x y).or (g' s x y)) fa fb ρ s = some r) : fOp g fa fb ρ s = some r ∨ fOp g' fa fb ρ s = some r := by
  unfold fOp at h ⊢
  rcases bnd_ex (k' := fun x => ret x) h with ⟨e, s1, e1, rfl⟩ | ⟨x, s1, e1, h⟩
  · left
    unfold bnd
    rw [e1]
  · rcases bnd_ex (k' := fun x => ret x) h with ⟨e, s2, e2, rfl⟩ | ⟨y, s2, e2, h⟩
    · left
      simp only [bnd, e1, e2]
    · obtain ⟨z, h3, rfl⟩ := got_some h
      simp only [bnd, e1, e2, got]
      cases e3 : g s2 x y with
      | some z' =>
        simp only [e3, Option.some_or] at h3
        cases h3
        exact .inl rfl
      | none =>
        simp only [e3, Option.none_or] at h3
        rw [h3]
        exact .inr rfl
section
variable {X : Cx} {C : Cn} {a b e : Expr} {pos p : Pos}
theorem pe_or {t t' : TE} (h : PE X e t) (h' : PE X e t') : PE X e (fun σ H Q => t σ H Q ∨ t' σ H Q) := ⟨fun pins s σ H Q I q => q.elim (h.run pins s σ H Q I) (h'.run pins s σ H Q I)⟩
theorem de_or2 {g g' : G2} {fa fb : M D} (h : DE X C e (fOp g fa fb)) (h' : DE X C e (fOp g' fa fb)) : DE X C e (fOp (fun s x y => (g s x y).or (g' s x y)) fa fb) :=
  let ⟨_, pa, ea⟩ := h.ex
  let ⟨_, pb, eb⟩ := h'.ex
  ⟨_, pe_or pa pb, fun ws H s σ ρ r Q S N h xx q => (fOp_or h).elim (fun h => .inl (ea ws H s σ ρ r Q S N h xx q)) fun h => .inr (eb ws H s σ ρ r Q S N h xx q)⟩
theorem de_dget {fa fb : M D} (hu : X.A.units + 1 < cLine) (ha : DE X C a fa) (hb : DE X C b fb) (hs : NoSl b := by intro _ _; rfl) : DE X C (.Subscript a b pos) (fOp getD' fa fb) :=
  let ⟨_, pa, ea⟩ := ha.ex
  let ⟨_, pb, eb⟩ := hb.ex
  ⟨_, pe_dget hu pa pb hs, ev_op ea eb ops_dget⟩
/-- e[i], of a row or a dict -/
def ixU (s : Sto) (x y : D) : Option D := (ixD s x y).or (getD' s x y)
theorem de_ixU {fa fb : M D} (hu : X.A.units + 1 < cLine) (ha : DE X C a fa) (hb : DE X C b fb) (hp : PlainIx b := by intro _ _; rfl) (hs : NoSl b := by intro _ _; rfl) (hK : X.K = C.T.K := by rfl) : DE X C (.Subscript a b pos) (fOp ixU fa fb) :=
  de_or2 (de_ix ha hb hp hK) (de_dget hu ha hb hs)
theorem de_din {fa fb : M D} (hu : X.A.units + 1 < cLine) (ha : DE X C a fa) (hb : DE X C b fb) (hm : behindInMarks .In b = false := by rfl) : DE X C (.Compare a [.In] [b] pos) (fOp inD fa fb) :=
  let ⟨_, pa, ea⟩ := ha.ex
  let ⟨_, pb, eb⟩ := hb.ex
  ⟨_, pe_cmp (pc_din hu pa pb) hm, ev_op ea eb ops_din⟩
theorem dt_din {fa fb : M D} (hu : X.A.units + 1 < cLine) (ha : DE X C a fa) (hb : DE X C b fb) (hm : behindInMarks .In b = false := by rfl) : DT X C (.Compare a [.In] [b] pos) (fBl (fOp inD fa fb)) :=
  let ⟨_, pa, ea⟩ := ha.ex
  let ⟨_, pb, eb⟩ := hb.ex
  ⟨_, pt_cmp (pc_din hu pa pb) hm, ev_test (ev_op ea eb ops_din)⟩
theorem de_dnin {fa fb : M D} (hu : X.A.units + 1 < cLine) (ha : DE X C a fa) (hb : DE X C b fb) (hm : behindInMarks .NotIn b = false := by rfl) : DE X C (.Compare a [.NotIn] [b] pos) (fOp ninD fa fb) :=
  let ⟨_, pa, ea⟩ := ha.ex
  let ⟨_, pb, eb⟩ := hb.ex
  ⟨_, pe_cmp (pc_dnotin hu pa pb) hm, ev_op ea eb ops_dnin⟩
theorem dt_dnin {fa fb : M D} (hu : X.A.units + 1 < cLine) (ha : DE X C a fa) (hb : DE X C b fb) (hm : behindInMarks .NotIn b = false := by rfl) : DT X C (.Compare a [.NotIn] [b] pos) (fBl (fOp ninD fa fb)) :=
  let ⟨_, pa, ea⟩ := ha.ex
  let ⟨_, pb, eb⟩ := hb.ex
  ⟨_, pt_cmp (pc_dnotin hu pa pb) hm, ev_test (ev_op ea eb ops_dnin)⟩
end
end
end VM
set_option Elab.async false
set_option maxRecDepth 100000
set_option maxHeartbeats 4000000
set_option linter.all false
set_option autoImplicit false
/-! tuple * k, whatever k. -/
namespace L2
open PySem PySem.Spec PyProof.Rows
theorem vm_tm_same (l : Addr) (items : Array Value) (n : Nat) (dd : Option Addr) (sl : Array (Option Value)) (x : Int) (u : Tok) (c0 : (decide (x < -(2 ^ 63)) || decide (x ≥ 2 ^ 63)) = false) (c1 : (items.isEmpty || x == 1) = true) :
    Meets (Builtin.«tuple.__mul__» ⟨[.ref l, .int x u], []⟩) (fun _ R s => s.heap.get? l = some { cls := .type "tuple", dict := dd, data := .seq items n, slots := sl } ∧ R (.ok (.ret (Value.ref l))) s) :=
  .of_wp fun prog w A R s h => by
    obtain ⟨hp, g, d, tk, os⟩ := s
    obtain ⟨hl, h⟩ := h
    have f1 := AutoSeq1.idx_int
    wp_walk using wpAny_loadPart' hl
    refine wpAny_ite_false (decide_eq_false (by rw [c0]; exact Bool.false_ne_true)) ?_
    wp_walk using wpAny_loadPart' hl
    exact ⟨_, rfl, h⟩
theorem vm_tm_none (l : Addr) (items : Array Value) (n : Nat) (dd : Option Addr) (sl : Array (Option Value)) (x : Int) (u : Tok) (c0 : (decide (x < -(2 ^ 63)) || decide (x ≥ 2 ^ 63)) = false) (c1 : (items.isEmpty || x == 1) = false) (c2 : (decide (x ≤ 0) || items.isEmpty) = true) :
    Meets (Builtin.«tuple.__mul__» ⟨[.ref l, .int x u], []⟩) (fun _ R s => s.heap.get? l = some { cls := .type "tuple", dict := dd, data := .seq items n, slots := sl } ∧
      R (.ok (.ret (Value.ref s.heap.objs.size))) { s with heap := s.heap.push { cls := Value.type "tuple", data := Data.seq #[] }, toks := s.toks }) :=
  .of_wp fun prog w A R s h => by
    obtain ⟨hp, g, d, tk, os⟩ := s
    obtain ⟨hl, h⟩ := h
    have f1 := AutoSeq1.idx_int
    wp_walk using wpAny_loadPart' hl
    refine wpAny_ite_false (decide_eq_false (by rw [c0]; exact Bool.false_ne_true)) ?_
    wp_walk using wpAny_loadPart' hl
    exact ⟨_, rfl, h⟩
/-- t * k: the same tuple, none, or a new one -/
def vmRepT (K : PySem.W.Frag) : R2 := fun x y H Q => ∃ l k xs, x = .ref l ∧ y = .int k ∧ SqT K H l xs ∧ -1000 ≤ k ∧ k ≤ 1000 ∧ xs.length ≤ 1000 ∧ (((xs = [] ∨ k = 1) ∧ Q (.ref l) H) ∨ (¬ (xs = [] ∨ k = 1) ∧ ∀ p, H p = none → Q (.ref p) (upd H p (.tup (List.replicate k.toNat xs).flatten))))
theorem vm_repT {X : Cx} : OpR X (binaryOp .Mult) (vmRepT X.K) := by
  intro pins s σ H x y v u Q I rx ry h
  obtain ⟨l, k, xs, rfl, rfl, hT, hk1, hk2, hz, h⟩ := h
  rcases h with ⟨hc, q⟩ | ⟨hc, q⟩
  · cases rx
    obtain ⟨t, rfl⟩ := ry
    obtain ⟨its, r, ⟨⟨cls, dd, data, sl⟩, ho, hcl, n, hd⟩, hs⟩ := I.tuple hT
    simp only at hcl hd
    subst hcl hd
    have hle : its.length = xs.length := r.length.symm
    have c0 : (decide (k < -(2 ^ 63)) || decide (k ≥ 2 ^ 63)) = false := by
      rw [decide_eq_false (by omega), decide_eq_false (by omega)] <;> rfl
    have c1 : (its.toArray.isEmpty || k == 1) = true := by
      rcases hc with e | e
      · rw [e] at hle
        rw [List.eq_nil_of_length_eq_zero hle] <;> rfl
      · rw [e]; simp
    refine wpAny_binaryOp_repeat_ref (T := "tuple") (U := "int") (by decide) ⟨_, ho, rfl⟩ (fun s' => typeIs_int s' k t) noFill_tuple_mul F.fills_int_mul F.slot_int_rmul repeat_tuple F.slot_int_index.lookup
      (call_meets F.slot_int_rmul (typeIs_int s k t) F.entry_int_rmul (F.args_int_rmul_2 _ _) (int_rmul_tuple k t l its.toArray n dd sl)
        ⟨ho, rfl, ⟨_, ho, rfl⟩, call_meets F.slot_tuple_mul ⟨_, ho, rfl⟩ F.entry_tuple_mul (F.args_tuple_mul_2 _ _) (vm_tm_same l its.toArray n dd sl k t c0 c1) ⟨ho, ?_⟩⟩)
    exact ⟨.ref l, H, I.tok _, rfl, q⟩
  · by_cases h2 : 2 ≤ k
    · exact op_repT pins s σ H _ _ v u Q I rx ry ⟨l, k, xs, rfl, rfl, hT, fun e => hc (.inl e), h2, hk2, hz, q⟩
    · cases rx
      obtain ⟨t, rfl⟩ := ry
      obtain ⟨its, r, ⟨⟨cls, dd, data, sl⟩, ho, hcl, n, hd⟩, hs⟩ := I.tuple hT
      simp only at hcl hd
      subst hcl hd
      have hle : its.length = xs.length := r.length.symm
      have hk : k ≤ 0 := by
        have : k ≠ 1 := fun e => hc (.inr e)
        omega
      have c0 : (decide (k < -(2 ^ 63)) || decide (k ≥ 2 ^ 63)) = false := by
        rw [decide_eq_false (by omega), decide_eq_false (by omega)] <;> rfl
      have c1 : (its.toArray.isEmpty || k == 1) = false := by
        have : its.toArray.isEmpty = false := by
          cases its with
          | nil => exact absurd (List.eq_nil_of_length_eq_zero hle.symm) fun e => hc (.inl e)
          | cons _ _ => rfl
        rw [this, Bool.false_or]
        exact beq_eq_false_iff_ne.mpr (by omega)
      have c2 : (decide (k ≤ 0) || its.toArray.isEmpty) = true := by rw [decide_eq_true hk] <;> rfl
      refine wpAny_binaryOp_repeat_ref (T := "tuple") (U := "int") (by decide) ⟨_, ho, rfl⟩ (fun s' => typeIs_int s' k t) noFill_tuple_mul F.fills_int_mul F.slot_int_rmul repeat_tuple F.slot_int_index.lookup
        (call_meets F.slot_int_rmul (typeIs_int s k t) F.entry_int_rmul (F.args_int_rmul_2 _ _) (int_rmul_tuple k t l its.toArray n dd sl)
          ⟨ho, rfl, ⟨_, ho, rfl⟩, call_meets F.slot_tuple_mul ⟨_, ho, rfl⟩ F.entry_tuple_mul (F.args_tuple_mul_2 _ _) (vm_tm_none l its.toArray n dd sl k t c0 c1 c2) ⟨ho, ?_⟩⟩)
      have e0 : (List.replicate k.toNat xs).flatten = [] := by
        rw [show k.toNat = 0 by omega] <;> rfl
      rw [e0] at q
      refine ⟨.ref s.heap.objs.size, _, I.laid (t' := s.toks) (o := .tup []) (fun b ob q => Heap.get?_push_of_some _ q) (Nat.le_refl _) ?_, rfl, q _ (I.hok.fresh (Nat.le_refl _))⟩
      exact ⟨Nat.zero_le _, [], .nil, IsTup.new _ _⟩
end L2
namespace VM
open PySem L2
noncomputable section
/-- tuple * k -/
def mulT (s : Sto) (x y : D) : Option D := match x, y with
  | .tup ds, .int k => if -1000 ≤ k ∧ k ≤ 1000 ∧ ds.length ≤ 1000 then some (.tup (List.replicate k.toNat ds).flatten) else none
  | _, _ => none
theorem ops_mulT {T : Kt} : OpS T (vmRepT T.K) mulT := fun ws H s x y z v u Q S r1 r2 e q => by
  unfold mulT at e
  split at e
  · rename_i ds k
    split at e
    · rename_i hl
      cases e
      obtain ⟨a, xs, rfl, h1, k1⟩ := r1
      cases r2
      refine ⟨a, k, xs, rfl, rfl, sqT_un h1, hl.1, hl.2.1, by rw [← k1.length]; exact hl.2.2, ?_⟩
      by_cases hc : xs = [] ∨ k = 1
      · refine .inl ⟨hc, q _ ws H (Stp.refl _ _) S ⟨a, xs, rfl, h1, ?_⟩⟩
        rcases hc with e | e
        · subst e
          have hd : ds = [] := List.eq_nil_of_length_eq_zero k1.length
          rw [hd, List.flatten_replicate_nil] <;> rfl
        · subst e
          show Reps T ws (mask ws H) (List.replicate 1 ds).flatten xs
          rw [List.replicate_one, List.flatten_singleton]
          exact k1
      · refine .inr ⟨hc, fun p hp => ?_⟩
        have t : Stp ws H ws (upd H p (.tup (List.replicate k.toNat xs).flatten)) := S.stp_new hp
        exact q _ ws _ t (S.new hp) ⟨p, _, rfl, (S.at_new hp), (k1.replicate _).stp t⟩
    · cases e
  · cases e
def mulU (s : Sto) (x y : D) : Option D := (mulD s x y).or (mulT s x y)
theorem op_mulU {X : Cx} : OpR X (binaryOp .Mult) (fun x y H Q => (rI CMul (fun i j => .int (i * j)) x y H Q ∨ rRep x y H Q) ∨ vmRepT X.K x y H Q) := op_mul2.or vm_repT
theorem ops_mulU {T : Kt} : OpS T (fun x y H Q => (rI CMul (fun i j => .int (i * j)) x y H Q ∨ rRep x y H Q) ∨ vmRepT T.K x y H Q) mulU := ops_mul.or ops_mulT

/-! ### max and min of two, str of an int -/
def c2 (g : Sto → D → D → Option D) : GC := fun s xs => match xs with
  | [x, y] => g s x y
  | _ => none
theorem c2_some {g : Sto → D → D → Option D} {s : Sto} {xs : List D} {z : D} (h : c2 g s xs = some z) : ∃ x y, xs = [x, y] ∧ g s x y = some z := by
  unfold c2 at h
  split at h
  · exact ⟨_, _, rfl, h⟩
  · cases h
theorem reps_two {T : Kt} {ws : Ws} {H : Hp} {x y : D} {vs : List V} (r : Reps T ws H [x, y] vs) : ∃ v u, vs = [v, u] ∧ Rep T ws H x v ∧ Rep T ws H y u := by
  obtain ⟨v, r1, rfl, h1, h2⟩ := r
  obtain ⟨u, r2, rfl, h3, h4⟩ := h2
  cases h4
  exact ⟨v, u, rfl, h1, h3⟩
def max2D (_ : Sto) (x y : D) : Option D := match x, y with
  | .int i, .int j => some (.int (if j > i then j else i))
  | _, _ => none
def min2D (_ : Sto) (x y : D) : Option D := match x, y with
  | .int i, .int j => some (.int (if j < i then j else i))
  | _, _ => none
theorem cs_max2 {T : Kt} : CallS T (fun xs H Q => ∃ i j, xs = [.int i, .int j] ∧ Q (.int (if j > i then j else i)) H) (c2 max2D) := fun ws H s xs z vs Q S r e q => by
  obtain ⟨x, y, rfl, e1⟩ := c2_some e
  obtain ⟨v, u, rfl, r1, r2⟩ := reps_two r
  unfold max2D at e1
  split at e1
  · cases e1
    cases r1
    cases r2
    exact ⟨_, _, rfl, q _ ws H (Stp.refl _ _) S rfl⟩
  · cases e1
theorem cs_min2 {T : Kt} : CallS T (fun xs H Q => ∃ i j, xs = [.int i, .int j] ∧ Q (.int (if j < i then j else i)) H) (c2 min2D) := fun ws H s xs z vs Q S r e q => by
  obtain ⟨x, y, rfl, e1⟩ := c2_some e
  obtain ⟨v, u, rfl, r1, r2⟩ := reps_two r
  unfold min2D at e1
  split at e1
  · cases e1
    cases r1
    cases r2
    exact ⟨_, _, rfl, q _ ws H (Stp.refl _ _) S rfl⟩
  · cases e1
/-- ints that str takes -/
def strI (i : Int) : Bool := decide (i.natAbs.log2 < 1920)
@[irreducible] def istr (i : Int) : Str := toString i
def strD (_ : Sto) : D → Option D
  | .int i => if strI i = true then some (.str (istr i)) else none
  | _ => none
theorem cs_str {T : Kt} : CallS T (fun xs H Q => ∃ i, xs = [.int i] ∧ i.natAbs.log2 < 1920 ∧ Q (.str (toString i)) H) (c1 strD) := fun ws H s xs z vs Q S r e q => by
  obtain ⟨x, rfl, e1⟩ := c1_some e
  obtain ⟨v, rfl, r1⟩ := reps_one r
  unfold strD at e1
  split at e1
  · split at e1
    · rename_i h
      cases e1
      cases r1
      refine ⟨_, rfl, of_decide_eq_true h, q _ ws H (Stp.refl _ _) S ?_⟩
      show V.str _ = V.str _
      unfold istr
      rfl
    · cases e1
  · cases e1

/-! ### {}, d[k] = v -/
section
variable {X : Cx} {C : Cn} {e a b : Expr} {pos p : Pos} {fv : M D}
def fNewK : M D := fun _ s => some (.ok (.own s.length) (s ++ [.dct false [] []]))
theorem de_newK : DE X C (.Dict [] [] pos) fNewK := ⟨_, pe_dnewK, fun ws H s σ ρ r Q S N h xx q => by
  cases h
  intro p hp
  have t : Stp ws H (ws.add p) (upd H p (.dK [])) := S.stp_own hp
  exact q _ _ rfl _ (ws.add p) _ t (S.newOwn (so := .dct false [] []) hp ⟨rfl, rfl, rfl⟩) (rep_last S)⟩
def dputD (s : Sto) (o i v : D) : Option Sto := match o with
  | .own l => (dctOf s o).bind fun q => (keyK i).bind fun k => if q.1.length < LIM then some (s.set l (.dct false (kputD k v q.1 q.2).1 (kputD k v q.1 q.2).2)) else none
  | _ => none
def fSubD (fv fo fi : M D) : MS := bndS fv fun v => bndS fo fun o => bndS fi fun i ρ s => (dputD s o i v).map fun s1 => .nx ρ s1
theorem ds_dput {o i : Expr} {fo fi : M D} {pos' : Pos} (hu : X.A.units + 1 < cLine) (h : DE X C e fv) (ho : DE X C o fo) (hi : DE X C i fi) (hs : swapsWith e (some (.Subscript o i pos')) pos.line X.env = pure false := by rfl) :
    DS X C (.Assign [.Subscript o i pos'] e pos) (fSubD fv fo fi) :=
  let ⟨_, pa, ea⟩ := h.ex
  let ⟨_, po, eo⟩ := ho.ex
  let ⟨_, pi, ei⟩ := hi.ex
  ⟨_, ps_dput hu po pi pa hs, fun ws H s σ ρ out E S N h q =>
    (ea.st) S N h q fun v s1 k1 vv ws1 H1 t1 S1 r1 => (eo.st) S1 (N.stp t1) k1 (q.stp t1) fun od s2 k2 ov ws2 H2 t2 S2 r2 => (ei.st) S2 ((N.stp t1).stp t2) k2 ((q.stp t1).stp t2) fun id' s3 k3 iv ws3 H3 t3 S3 r3 => by
    obtain ⟨s4, k4, rfl⟩ := Option.map_eq_some_iff.mp k3
    unfold dputD at k4
    split at k4
    · rename_i l
      obtain ⟨⟨ks, vs⟩, k5, k4⟩ := Option.bind_eq_some_iff.mp k4
      obtain ⟨k, k6, k4⟩ := Option.bind_eq_some_iff.mp k4
      split at k4
      · rename_i hlt
        cases k4
        have r2' := r2.stp t3
        obtain ⟨a', kvs, ea', hx, rfl, rx⟩ := dctOf_ok S3 r2' k5
        obtain ⟨a, ha1, rfl⟩ := r2'
        cases ea'
        have hk := keyK_rep r3 k6
        subst hk
        have rv := (r1.stp t2).stp t3
        obtain ⟨p1, p2⟩ := kputD_ok (k := k) rv rx
        have S4 := S3.put (so := .dct false _ _) (o := .dK (putK kvs k vv)) ha1 ⟨rfl, p1, p2⟩
        have t4 : Stp ws3 H3 ws3 (upd H3 a' (.dK (putK kvs k vv))) := S3.stp_put ha1
        exact ⟨a', _, rfl, .k hx (lim_lt (by simpa using hlt)), q σ ws3 _ (((t1.trans t2).trans t3).trans t4) S4 ((((N.stp t1).stp t2).stp t3).stp t4)⟩
      · cases k4
    · cases k4⟩
end
end
end VM
set_option Elab.async false
set_option maxRecDepth 100000
set_option maxHeartbeats 4000000
set_option linter.all false
set_option autoImplicit false
/-! A dict's comprehension with two fors. -/
namespace L2
open PySem PySem.Spec PyProof.Rows
section
variable {prog : Program} {w : World} {A : Around}
/-- the tests of a clause -/
abbrev vmTests (ifs : List Expr) (env : Env) : Sem Bool := forIn ifs true fun c r => if r = true then do let ok ← isTrue c env (eval c env); pure (ForInStep.yield ok) else pure (ForInStep.yield r)
/-- a turn of a clause that does B with each item, and goes on -/
def vmTurn (e : Expr) (k : Nat) (p : Pos) (tg : Expr) (ifs : List Expr) (B : Sem Fin → Sem Fin) (it acc : Value) (env : Env) : Sem Fin :=
  standAt p >>= fun _ => pyNext it >>= fun r => match r with
    | none => pure (.done .next)
    | some v => letOwnedTupleGo tg it v >>= fun _ => assign tg env v >>= fun _ => vmTests ifs env >>= fun ok => if ok = true then B (again (.compLoop e k it acc env)) else again (.compLoop e k it acc env)
abbrev vmE (M : Model) (A : Around) (env : Env) (R : Result → Shared → Prop) : Value → Shared → Prop := notedBy M A env fun x s' => R (.error x) s'
/-- what stands behind a turn -/
abbrev vmAft (R : Result → Shared → Prop) (c : Code) (m : Nat) (J : Nat → Shared → Prop) : Fin → Shared → Prop := fun fin s' => match fin with
  | .done f => R (.ok f) s'
  | .again c' => c' = c ∧ ∃ m', m' < m ∧ J m' s'
theorem vm_loop {R : Result → Shared → Prop} {s : Shared} {e tg : Expr} {k : Nat} {p : Pos} {ifs : List Expr} {B : Sem Fin → Sem Fin} {it acc : Value} {env : Env} (hq : (Code.compLoop e k it acc env).quiet = true) (hu : A.under (.compLoop e k it acc env) = A)
    (hd : (model prog w).den (.compLoop e k it acc env) = (compTurn e k it acc env).onRaise (fun x => do noteFrame x env; theTreesLotGoes x)) (eq : compTurn e k it acc env = vmTurn e k p tg ifs B it acc env)
    (J : Nat → Shared → Prop)
    (turn : ∀ m s, J m s → wpAny (model prog w) A (pyNext it) (fun r s1 => match r with
      | none => R (.ok .next) s1
      | some v => wpAny (model prog w) A (letOwnedTupleGo tg it v) (fun _ s2 => wpAny (model prog w) A (assign tg env v) (fun _ s3 => wpAny (model prog w) A (vmTests ifs env) (fun ok s4 =>
          if ok = true then wpAny (model prog w) A (B (again (.compLoop e k it acc env))) (vmAft R (.compLoop e k it acc env) m J) (vmE (model prog w) A env R) s4 else ∃ m', m' < m ∧ J m' s4)
            (vmE (model prog w) A env R) s3) (vmE (model prog w) A env R) s2) (vmE (model prog w) A env R) s1) (vmE (model prog w) A env R) s)
    (m : Nat) (h : J m s) : codeAny (model prog w) A (.compLoop e k it acc env) R s := by
  refine codeAny_loop hq J (fun m s hJ => ?_) m h
  rw [hu, hd]
  refine wpAny_noted ?_
  rw [eq]
  refine wpAny_bind (wpAny_standAt (wpAny_bind (wpAny_mono (turn m s hJ) (fun r s1 h1 => ?_) fun _ _ z => z)))
  cases r with
  | none => exact wpAny_pure h1
  | some v => exact wpAny_bind (wpAny_mono h1 (fun _ s2 h2 => wpAny_bind (wpAny_mono h2 (fun _ s3 h3 => wpAny_bind (wpAny_mono h3 (fun ok s4 h4 => by
      cases ok with
      | false => exact wpAny_pure ⟨rfl, h4⟩
      | true => exact h4) fun _ _ z => z)) fun _ _ z => z)) fun _ _ z => z)
/-- what is done with each item of the first of two clauses -/
def vmInner (e : Expr) (i1 : Expr) (acc : Value) (env : Env) (k : Sem Fin) : Sem Fin :=
  eval i1 env >>= fun x => standAt i1.pos >>= fun _ => foldedSetIterable i1 env x >>= fun x => holding [x] (pyIter x) >>= fun it => runOwn (.compStart e 1 it acc env) env >>= fun _ => k
def vmEmit (kx vx : Expr) (d : Addr) (env : Env) : Sem Unit :=
  eval kx env >>= fun kv => holding [kv] (eval vx env) >>= fun vv => standAt { kx.pos with endLine := vx.pos.endLine, endCol := vx.pos.endCol } >>= fun _ => holding [kv, vv] (dictSet d kv vv)
theorem vm_dc_out (kx vx t0 i0 t1 i1 : Expr) (c0 c1 : List Expr) (sc : Scope) (p : Pos) (it acc : Value) (env : Env) :
    compTurn (.DictComp kx vx [⟨t0, i0, c0, 0⟩, ⟨t1, i1, c1, 0⟩] sc p) 0 it acc env = vmTurn (.DictComp kx vx [⟨t0, i0, c0, 0⟩, ⟨t1, i1, c1, 0⟩] sc p) 0 i0.pos t0 c0 (vmInner (.DictComp kx vx [⟨t0, i0, c0, 0⟩, ⟨t1, i1, c1, 0⟩] sc p) i1 acc env) it acc env := by
  unfold vmTurn vmInner
  rfl
theorem vm_dc_in (kx vx t0 i0 t1 i1 : Expr) (c0 c1 : List Expr) (sc : Scope) (p : Pos) (it : Value) (d : Addr) (env : Env) :
    compTurn (.DictComp kx vx [⟨t0, i0, c0, 0⟩, ⟨t1, i1, c1, 0⟩] sc p) 1 it (.ref d) env = vmTurn (.DictComp kx vx [⟨t0, i0, c0, 0⟩, ⟨t1, i1, c1, 0⟩] sc p) 1 i1.pos t1 c1 (fun k => vmEmit kx vx d env >>= fun _ => k) it (.ref d) env := by
  unfold vmTurn vmEmit
  rfl
/-- the first clause's loop: J behind the second's -/
theorem vm_inner {R : Result → Shared → Prop} {s : Shared} {e i1 : Expr} {acc : Value} {env : Env} {c : Code} {m : Nat} {J : Nat → Shared → Prop} (hs : ∀ x, foldedSetIterable i1 env x = pure x)
    (h : wpAny (model prog w) A (eval i1 env) (fun x s1 => wpAny (model prog w) A (pyIter x) (fun it s2 => codeAny (model prog w) A (.compStart e 1 it acc env) (fun r s' => match r with
      | .ok _ => ∃ m', m' < m ∧ J m' s'
      | .error _ => False) s2) (vmE (model prog w) A env R) s1) (vmE (model prog w) A env R) s) :
    wpAny (model prog w) A (vmInner e i1 acc env (again c)) (vmAft R c m J) (vmE (model prog w) A env R) s := by
  unfold vmInner
  refine wpAny_bind (wpAny_mono h (fun x s1 h1 => ?_) fun _ _ z => z)
  refine wpAny_bind (wpAny_standAt (wpAny_bind (wpAny_of_eq (hs x) (wpAny_bind (wpAny_holding (wpAny_mono h1 (fun it s2 h2 => ?_) fun _ _ z => z))))))
  refine wpAny_bind (wpAny_runOwn ?_)
  rw [Around.mark_none]
  refine codeAny_mono h2 fun r s' hr => ?_
  cases r with
  | ok f => first | exact wpAny_pure ⟨rfl, hr⟩ | exact wpAny_bind (wpAny_pure (wpAny_pure ⟨rfl, hr⟩))
  | error x => exact hr.elim
theorem vm_emit {R : Result → Shared → Prop} {s : Shared} {kx vx : Expr} {d : Addr} {env : Env} {c : Code} {m : Nat} {J : Nat → Shared → Prop}
    (h : wpAny (model prog w) A (eval kx env) (fun kv s1 => wpAny (model prog w) A (eval vx env) (fun vv s2 => wpAny (model prog w) A (dictSet d kv vv) (fun _ s3 => ∃ m', m' < m ∧ J m' s3) (vmE (model prog w) A env R) s2) (vmE (model prog w) A env R) s1) (vmE (model prog w) A env R) s) :
    wpAny (model prog w) A (vmEmit kx vx d env >>= fun _ => again c) (vmAft R c m J) (vmE (model prog w) A env R) s := by
  unfold vmEmit
  exact wpAny_bind (wpAny_bind (wpAny_mono h (fun kv s1 h1 => wpAny_bind (wpAny_holding (wpAny_mono h1 (fun vv s2 h2 => wpAny_bind (wpAny_standAt (wpAny_holding (wpAny_mono h2 (fun _ s3 h3 => wpAny_pure ⟨rfl, h3⟩) fun _ _ z => z)))) fun _ _ z => z))) fun _ _ z => z))
/-- a clause's start: as it stands, or asked for its iterator once more -/
theorem vm_start {R : Result → Shared → Prop} {s : Shared} {e : Expr} {k : Nat} {c : Comprehension} {it acc : Value} {env : Env} (hu : A.under (.compStart e k it acc env) = A)
    (hd : (model prog w).den (.compStart e k it acc env) = (compStart e k it acc env).onRaise (fun x => do noteFrame x env; standAt theWindowsPlace)) (hc : (clausesOf e)[k]? = some c) (ha : (c.is_async != 0) = false)
    (h0 : codeAny (model prog w) A (.compLoop e k it acc env) R s)
    (h : wpAny (model prog w) A (pyIter it) (fun i' s' => codeAny (model prog w) A (.compLoop e k i' acc env) R s') (vmE (model prog w) A env R) s) :
    codeAny (model prog w) A (.compStart e k it acc env) R s := by
  refine codeAny_of_tree ?_
  rw [hu, hd]
  refine wpAny_notedAt ?_
  unfold compStart
  rw [hc]
  simp only [Option.elim, ha, Bool.false_eq_true, if_false]
  refine wpAny_bind (wpAny_askSetting (wpAny_ite ?_))
  split
  · first | exact wpAny_bind (wpAny_pure (wpAny_pure (And.intro rfl h0))) | exact wpAny_pure (And.intro rfl h0)
  · exact wpAny_bind (wpAny_rule (wpAny_bind (wpAny_standAt (wpAny_bind (wpAny_mono h (fun i' s' h' => wpAny_pure (And.intro rfl h')) fun _ _ x => x)))))
end
end L2
set_option Elab.async false
set_option maxRecDepth 100000
set_option maxHeartbeats 4000000
set_option linter.all false
set_option autoImplicit false
/-! One clause of a comprehension, whatever is done with its items. -/
namespace L2
open PySem PySem.Spec PyProof.Rows
/-- where a clause's loop stands -/
def VmSt (Y : Cx) (pins : List (Addr × Obj)) (σ0 : St) (fp : List Addr) (tn : Nat → Heap → Prop) (W : Nat → Nat → Hp → Prop) (m : Nat) (s : Shared) : Prop := ∃ i H, Inv Y pins σ0 H s ∧ tn i s.heap ∧ (∀ b ∈ fp, H b = none) ∧ W i m H
/-- how a clause's loop goes: Bd is what is asked of an item that is taken -/
def VmGo (J : It) (g : TG) (tt : TT) (vs : List Nat) (σ0 : St) (W : Nat → Nat → Hp → Prop) (Fn : Hp → Prop) (Bd : (Hp → Prop) → St → Hp → Prop) : Prop := ∀ i m H, W i m H →
  (J.stop i H ∧ Fn H) ∨ (J.go i H ∧ ∃ Nx : Hp → Prop, (∀ H', Nx H' → ∃ m', m' < m ∧ W (i + 1) m' H') ∧ ∀ x H', J.yld i H x H' → g x σ0 H' fun σ2 H2 => wipe σ2 vs = σ0 ∧ tt σ2 H2 fun b H3 => if b = true then Bd Nx σ2 H3 else Nx H3)
theorem vm_clause {Y : Cx} {pins : List (Addr × Obj)} {R : Result → Shared → Prop} {s : Shared} {H : Hp} {e tg : Expr} {k : Nat} {p : Pos} {ifs : List Expr} {B : Sem Fin → Sem Fin} {acc : Value} {fp : List Addr} {it : Addr} {tn : Nat → Heap → Prop} {J : It} {g : TG} {tt : TT} {vs : List Nat} {σ0 : St}
    {W : Nat → Nat → Hp → Prop} {Fn : Hp → Prop} {Bd : (Hp → Prop) → St → Hp → Prop} {m0 : Nat} (hc : Y.calm = true) (hx : Y.xe = fun _ _ => False) (hq : (Code.compLoop e k (.ref it) acc Y.env).quiet = true) (hu : Y.A.under (.compLoop e k (.ref it) acc Y.env) = Y.A)
    (hd : (model Y.prog Y.w).den (.compLoop e k (.ref it) acc Y.env) = (compTurn e k (.ref it) acc Y.env).onRaise (fun x => do noteFrame x Y.env; theTreesLotGoes x)) (eq : compTurn e k (.ref it) acc Y.env = vmTurn e k p tg ifs B (.ref it) acc Y.env)
    (T : Turn Y.prog Y.w Y.K tg J fp it tn) (pg : PG Y tg g) (pt : PTs Y ifs tt) (hst : ∀ σ' s' H', Inv Y pins σ' H' s' → (∀ b ∈ fp, H' b = none) → ∀ b ∈ fp, FpOk Y pins H' b) (turn : VmGo J g tt vs σ0 W Fn Bd)
    (body : ∀ (m : Nat) (Nx : Hp → Prop) (σ2 : St) (H3 : Hp) (s3 : Shared) (pl : List (Addr × Obj)), Inv Y (pins ++ pl) σ2 H3 s3 → wipe σ2 vs = σ0 → Bd Nx σ2 H3 →
      (∀ σ' s' H', Inv Y (pins ++ pl) σ' H' s' → σ0.length = σ'.length → (∀ (j : Nat) v, σ0[j]? = some (some v) → σ'[j]? = some (some v)) → Nx H' → ∃ m', m' < m ∧ VmSt Y pins σ0 fp tn W m' s') →
      wpAny (model Y.prog Y.w) Y.A (B (again (.compLoop e k (.ref it) acc Y.env))) (vmAft R (.compLoop e k (.ref it) acc Y.env) m (VmSt Y pins σ0 fp tn W)) (vmE (model Y.prog Y.w) Y.A Y.env R) s3)
    (done : ∀ s' H', Inv Y pins σ0 H' s' → Fn H' → R (.ok .next) s') (I : Inv Y pins σ0 H s) (t0 : tn 0 s.heap) (n0 : ∀ b ∈ fp, H b = none) (w0 : W 0 m0 H) :
    codeAny (model Y.prog Y.w) Y.A (.compLoop e k (.ref it) acc Y.env) R s := by
  refine vm_loop hq hu hd eq (VmSt Y pins σ0 fp tn W) ?_ m0 ⟨0, H, I, t0, n0, w0⟩
  rintro m s1 ⟨i, H1, I1, t1, n1, w1⟩
  rcases turn i m H1 w1 with ⟨hstop, fn⟩ | ⟨go, Nx, next, step⟩
  · refine thnF (T.done Y rfl rfl rfl hc i pins s1 σ0 H1 (fun _ _ => False) I1 (hst _ _ _ I1 n1) t1 hstop) fun r s2 ⟨er, I2⟩ => ?_
    rw [er]
    exact done s2 H1 I2 fn
  · refine thnF (T.item Y rfl rfl rfl hc i pins s1 σ0 H1 (fun _ _ => False) I1 (hst _ _ _ I1 n1) t1 go) fun r s2 ⟨u, er, h2⟩ => ?_
    rw [er]
    refine thnF h2 fun _ s3 ⟨x, H3, I3, rx, y3, t3, n3⟩ => ?_
    have I3p := I3.pinned (hst _ _ _ I3 n3) (T.obj _ _ t3)
    have a4 := pg.run _ s3 σ0 H3 x u _ I3p rx (step x H3 y3)
    rw [hx] at a4
    refine thnF a4 fun _ s4 ⟨σ4, H4, I4, k4, q4⟩ => ?_
    have a5 := pt.run _ s4 σ4 H4 _ I4 q4
    rw [hx] at a5
    refine thnF a5 fun b s5 ⟨H5, I5, q5⟩ => ?_
    have back : ∀ σ' s' H', Inv Y (pins ++ pinsAt fp s3.heap) σ' H' s' → σ0.length = σ'.length → (∀ (j : Nat) v, σ0[j]? = some (some v) → σ'[j]? = some (some v)) → Nx H' → ∃ m', m' < m ∧ VmSt Y pins σ0 fp tn W m' s' := fun σ' s' H' I' hl hk nx => by
      obtain ⟨m', lt, w'⟩ := next H' nx
      have there : ∀ b ∈ fp, ∀ o, s3.heap.get? b = some o → s'.heap.get? b = some o ∧ H' b = none := fun b hb o eo =>
        ⟨(I'.pin (b, o) (List.mem_append_right _ (List.mem_append_right _ (mem_pinsAt hb eo)))).1, (I'.pin (b, o) (List.mem_append_right _ (List.mem_append_right _ (mem_pinsAt hb eo)))).2.1⟩
      exact ⟨m', lt, i + 1, H', I'.unpinned.weak hl hk, T.keep _ _ _ t3 fun b hb o eo => (there b hb o eo).1, fun b hb => let ⟨o, eo, _⟩ := T.obj _ _ t3 b hb; (there b hb o eo).2, w'⟩
    have hl4 : σ0.length = σ4.length := by rw [← k4, wipe_length]
    have hk4 : ∀ (j : Nat) v, σ0[j]? = some (some v) → σ4[j]? = some (some v) := fun j v ev => by
      rw [← k4] at ev
      exact (wipe_some ev).1
    cases b with
    | false =>
      simp only [Bool.false_eq_true, if_false] at q5 ⊢
      exact back σ4 s5 H5 I5 hl4 hk4 q5
    | true =>
      simp only [if_true] at q5 ⊢
      exact body m Nx σ4 H5 s5 _ I5 k4 q5 back
end L2
set_option Elab.async false
set_option maxRecDepth 100000
set_option maxHeartbeats 4000000
set_option linter.all false
set_option autoImplicit false
/-! {k: v for .. for ..} -/
namespace L2
open PySem PySem.Spec PyProof.Rows
def tVmDc2 (wi : TI) (g : TG) (tt : TT) (wi1 : TI) (g1 : TG) (tt1 : TT) (tk tv : TE) (vs vs1 : List Nat) : TE := fun σ H Q => wi σ H fun J H1 => ∀ D, H1 D = none → ∃ W : Nat → Nat → Hp → Prop, (∃ m, W 0 m (upd H1 D (.dK []))) ∧
  VmGo J g tt vs (wipe σ vs) W (fun H => Q (.ref D) H) fun Nx σ2 H3 => wi1 σ2 H3 fun J1 H4 => ∃ W1 : Nat → Nat → Hp → Prop, (∃ m, W1 0 m H4) ∧
    VmGo J1 g1 tt1 vs1 (wipe σ2 vs1) W1 Nx fun Nx1 σ3 H6 => tk σ3 H6 fun y H7 => tv σ3 H7 fun z H8 => ∃ kvs k, y = kV k ∧ H8 D = some (.dK kvs) ∧ kvs.length < sizeLine ∧ Nx1 (upd H8 D (.dK (putK kvs k z)))
section
variable {X : Cx} {kx vx tg iter tg1 iter1 : Expr} {ifs ifs1 : List Expr} {scope : Scope} {own : List (Str × Nat)} {vs1 : List Nat} {pos : Pos} {wi wi1 : TI} {g g1 : TG} {tt tt1 : TT} {tk tv : TE}
/-- within the block: both loops -/
theorem vm_dc2_blk {Y : Cx} {R : Result → Shared → Prop} {s : Shared} {σ : St} {H : Hp} {D : Addr} {fp : List Addr} {it : Addr} {tn : Nat → Heap → Prop} {J : It} {vs : List Nat} {W : Nat → Nat → Hp → Prop} {Fn : Hp → Prop} {m0 : Nat} (hc : Y.calm = true) (hx : Y.xe = fun _ _ => False)
    (T : Turn Y.prog Y.w Y.K tg J fp it tn) (pg : PG Y tg g) (pt : PTs Y ifs tt) (pi1 : PI Y tg1 iter1 wi1) (pg1 : PG Y tg1 g1) (pt1 : PTs Y ifs1 tt1) (pk : PE Y kx tk) (pv : PE Y vx tv) (hs1 : ∀ x, foldedSetIterable iter1 Y.env x = pure x)
    (hst : ∀ σ' s' H', Inv Y [] σ' H' s' → (∀ b ∈ fp, H' b = none) → ∀ b ∈ fp, FpOk Y [] H' b) (hv : ∀ i ∈ vs1, i ∈ vs)
    (turn : VmGo J g tt vs (wipe σ vs) W Fn fun Nx σ2 H3 => wi1 σ2 H3 fun J1 H4 => ∃ W1 : Nat → Nat → Hp → Prop, (∃ m, W1 0 m H4) ∧
      VmGo J1 g1 tt1 vs1 (wipe σ2 vs1) W1 Nx fun Nx1 σ3 H6 => tk σ3 H6 fun y H7 => tv σ3 H7 fun z H8 => ∃ kvs k, y = kV k ∧ H8 D = some (.dK kvs) ∧ kvs.length < sizeLine ∧ Nx1 (upd H8 D (.dK (putK kvs k z))))
    (done : ∀ s' H', Inv Y [] (wipe σ vs) H' s' → Fn H' → R (.ok .next) s') (I : Inv Y [] (wipe σ vs) H s) (t0 : tn 0 s.heap) (n0 : ∀ b ∈ fp, H b = none) (w0 : W 0 m0 H) :
    codeAny (model Y.prog Y.w) Y.A (.compLoop (.DictComp kx vx [⟨tg, iter, ifs, 0⟩, ⟨tg1, iter1, ifs1, 0⟩] scope pos) 0 (.ref it) (.ref D) Y.env) R s := by
  refine vm_clause hc hx rfl rfl rfl (vm_dc_out kx vx tg iter tg1 iter1 ifs ifs1 scope pos (.ref it) (.ref D) Y.env) T pg pt hst turn (fun m Nx σ2 H3 s3 pl I3 k3 q3 back => ?_) done I t0 n0 w0
  refine vm_inner hs1 ?_
  have a := pi1.run _ s3 σ2 H3 _ I3 q3
  rw [hx] at a
  refine thnF a fun xv s4 h4 => thnF h4 fun itv s5 h5 => ?_
  obtain ⟨it1, fp1, tn1, J1, H5, e1, I5, T1, t5, f5, W1, ⟨m1, w1⟩, turn1⟩ := h5
  subst e1
  have kept : ∀ (j : Nat) v, (wipe σ vs)[j]? = some (some v) → (wipe σ2 vs1)[j]? = some (some v) := fun j v ev => by
    rw [← k3] at ev
    obtain ⟨e2, e3⟩ := wipe_some ev
    rw [wipe_out fun z => e3 (hv j z)]
    exact e2
  have lens : (wipe σ vs).length = (wipe σ2 vs1).length := by rw [← k3, wipe_length, wipe_length]
  have inner : codeAny (model Y.prog Y.w) Y.A (.compLoop (.DictComp kx vx [⟨tg, iter, ifs, 0⟩, ⟨tg1, iter1, ifs1, 0⟩] scope pos) 1 (.ref it1) (.ref D) Y.env) (fun r s' => match r with
      | .ok _ => ∃ m', m' < m ∧ VmSt Y [] (wipe σ vs) fp tn W m' s'
      | .error _ => False) s5 := by
    refine vm_clause hc hx rfl rfl rfl (vm_dc_in kx vx tg iter tg1 iter1 ifs ifs1 scope pos (.ref it1) D Y.env) T1 pg1 pt1 (fun σ' s' H' I' n' b hb => ⟨n' b hb, (f5 b hb).2⟩) turn1 (fun m' Nx1 σ6 H6 s6 pl1 I6 k6 q6 back1 => ?_) (fun s' H' I' nx => back _ s' H' I' lens kept nx)
      (I5.weak (wipe_length _ _) fun j v ev => (wipe_some ev).1) t5 (fun b hb => (f5 b hb).1) w1
    refine vm_emit ?_
    have b1 := pk.run _ s6 σ6 H6 _ I6 q6
    rw [hx] at b1
    refine thnF b1 fun kv s7 ⟨y, H7, I7, r7, q7⟩ => ?_
    have b2 := pv.run _ s7 σ6 H7 _ I7 q7
    rw [hx] at b2
    refine thnF b2 fun vv s8 ⟨z, H8, I8, r8, kvs, kk, ek, hD8, hz8, nx⟩ => ?_
    subst ek
    refine d_dictSet I8 hD8 hz8 r7 r8 fun s9 I9 => back1 σ6 s9 _ I9 ?_ ?_ nx
    · rw [← k6, wipe_length]
    · intro j v ev
      rw [← k6] at ev
      exact (wipe_some ev).1
  exact vm_start rfl rfl rfl rfl inner (T1.self Y.A 0 s5 _ _ t5 inner)
theorem vm_pe_dc2 (hc : X.calm = true) (hN : X.N.Nodup) (hi : PI X tg iter wi) (ok : BlkOk X.N X.env.scope scope own) (hv : ∀ i ∈ vs1, i ∈ own.map (·.2))
    (hb : ∀ (s : Shared) (H : Hp) (C : Addr) (cl : List (Str × Addr)) (fp : List Addr), PG (X.blk s H scope (compEnvC scope cl C X.env) fp) tg g ∧ PTs (X.blk s H scope (compEnvC scope cl C X.env) fp) ifs tt ∧ PI (X.blk s H scope (compEnvC scope cl C X.env) fp) tg1 iter1 wi1 ∧
      PG (X.blk s H scope (compEnvC scope cl C X.env) fp) tg1 g1 ∧ PTs (X.blk s H scope (compEnvC scope cl C X.env) fp) ifs1 tt1 ∧ PE (X.blk s H scope (compEnvC scope cl C X.env) fp) kx tk ∧ PE (X.blk s H scope (compEnvC scope cl C X.env) fp) vx tv)
    (hs : ∀ x, foldedSetIterable iter X.env x = pure x := by intro _; rfl) (hs1 : ∀ env x, foldedSetIterable iter1 env x = pure x := by intro _ _; rfl) :
    PE X (.DictComp kx vx [⟨tg, iter, ifs, 0⟩, ⟨tg1, iter1, ifs1, 0⟩] scope pos) (tVmDc2 wi g tt wi1 g1 tt1 tk tv (own.map (·.2)) vs1) := by
  refine ⟨fun pins s σ H Q I h => ?_⟩
  rw [arm_eval_DictComp]
  have cells : ∀ y ∈ scope.names, y.2 = .free → ∃ c, X.env.cells.lookup y.1 = some c := fun y hy e =>
    (ok.free y hy e).elim (fun z => I.ok.has _ (.inl z)) fun z => I.ok.has _ (.inr z)
  refine wpAny_comprehension_free (use := none) rfl hs (closure_ok cells) ok.kind (fun y hy e => (ok.uniq y hy).trans (by rw [e])) (thn (hi.run pins s σ H _ I h) fun v1 s1 a1 => thn a1 fun v2 s2 a2 => ?_)
  obtain ⟨it, fp, tn, J, H2, rfl, I2, T, t2, f2, q⟩ := a2
  refine wpAny_newObj_type (newEnv_comp ?_)
  have fresh : H2 s2.heap.objs.size = none := I2.hok.fresh (Nat.le_refl _)
  obtain ⟨W, ⟨m0, w0⟩, turn⟩ := q _ fresh
  have I3 : Inv X pins σ (upd H2 s2.heap.objs.size (.dK [])) { s2 with heap := s2.heap.push { cls := .type "dict", data := .dict #[] } } :=
    I2.laid (t' := s2.toks) (fun b o e => Heap.get?_push_of_some _ e) (Nat.le_refl _) (dk_empty s2.heap I2.big)
  generalize hD : s2.heap.objs.size = D at I3 w0 turn fresh ⊢
  generalize hs3 : ({ s2 with heap := s2.heap.push { cls := .type "dict", data := .dict #[] } } : Shared) = s3 at I3 ⊢
  have h3 : s3.heap = s2.heap.push { cls := .type "dict", data := .dict #[] } := by rw [← hs3]
  have f3 : ∀ b ∈ fp, FpOk X pins (upd H2 D (.dK [])) b ∧ b < s3.heap.objs.size := fun b hb => by
    obtain ⟨o, eo, _⟩ := T.obj _ _ t2 b hb
    have lt := Heap.lt_size eo
    exact ⟨⟨(upd_ne (by rw [← hD]; exact Nat.ne_of_lt lt)).trans (f2 b hb).1, (f2 b hb).2⟩, by rw [h3, Heap.size_push]; exact Nat.lt_succ_of_lt lt⟩
  have t3 : tn 0 s3.heap := T.keep _ _ _ t2 fun b _ o e => by rw [h3]; exact Heap.get?_push_of_some _ e
  have I4 := block_start I3 ok hN f3
  obtain ⟨pg, pt, pi1, pg1, pt1, pk, pv⟩ := hb s3 (upd H2 D (.dK [])) s3.heap.objs.size (cellsFrom (s3.heap.objs.size + 1) scope.names (cloFrom X.env.cells scope.names [])) fp
  show codeAny _ _ (.compStart _ 0 (.ref it) (.ref D) (compEnvC scope (cellsFrom (s3.heap.objs.size + 1) scope.names (cloFrom X.env.cells scope.names [])) s3.heap.objs.size X.env)) (compPost (model X.prog X.w) X.A X.xe none (EP X pins σ Q) (.ref D) s3.heap.objs.size)
    { s3 with heap := pushCells (s3.heap.push { cls := .type "dict", data := .dict #[] }) scope.names }
  generalize hce : compEnvC scope (cellsFrom (s3.heap.objs.size + 1) scope.names (cloFrom X.env.cells scope.names [])) s3.heap.objs.size X.env = ce at I4 pg pt pi1 pg1 pt1 pk pv ⊢
  have cL : ce.locals = s3.heap.objs.size := by subst hce; rfl
  have loop := vm_dc2_blk (Y := X.blk s3 (upd H2 D (.dK [])) scope ce fp) (R := compPost (model X.prog X.w) X.A X.xe none (EP X pins σ Q) (.ref D) s3.heap.objs.size) (s := { s3 with heap := pushCells (s3.heap.push { cls := .type "dict", data := .dict #[] }) scope.names }) (kx := kx) (vx := vx) (iter := iter) (scope := scope) (pos := pos)
    hc rfl T pg pt pi1 pg1 pt1 pk pv (hs1 ce) (fun σ' s' H' I' n' b hb => ⟨n' b hb, (I'.ok.exf b hb).1, I'.ok.exfs b hb, .inl hb, fun x c e => (I'.ok.exf b hb).2 x c e, fun p hp => nomatch hp⟩) hv turn
    (fun s' H' I' fn => ?_) I4 (T.keep _ _ _ t3 fun b _ o e => pushCells_keeps _ _ _ _ (Heap.get?_push_of_some _ e)) (fun b hb => (f3 b hb).1.1) w0
  · exact vm_start rfl rfl rfl rfl loop (T.self X.A 0 _ _ _ (T.keep _ _ _ t3 fun b _ o e => pushCells_keeps _ _ _ _ (Heap.get?_push_of_some _ e)) loop)
  · have I7 : Inv X pins σ H' s' := I3.call' (ch := fp) I'.os I'.base I'.hok I'.bare fun b hb => ⟨(f3 b hb).1.2.2.2.1, (f3 b hb).1.2.1, (f3 b hb).1.2.2.2.2.1, (f3 b hb).1.2.2.2.2.2⟩
    have gone : H' s3.heap.objs.size = none := by
      rw [← cL]
      exact I'.free
    obtain ⟨mm, hn, _⟩ := I'.loc
    have hn : s'.heap.Ns ce.locals mm := hn
    rw [cL] at hn
    obtain ⟨o0, o1, o2, o3, o4, o5⟩ := I3.fpOk (Nat.le_refl _) gone
    exact ⟨mm, hn, fun h' sb => ⟨.ref D, H', I7.turned (t' := s'.toks) (fun b o hb e => (sb.2 b hb).trans e) o0 o1 o3 o4 o5, rfl, fn⟩⟩
end
end L2
set_option Elab.async false
set_option maxRecDepth 100000
set_option maxHeartbeats 4000000
set_option linter.all false
set_option autoImplicit false
/-! A clause of a comprehension by values; two fors. -/
namespace VM
open PySem L2
noncomputable section
def clL {β : Type} (g : D → Rho → Option Rho) (ft : M Bool) (bd : Rho → β → Sto → Option (β × Sto)) (ck : Option (Nat × List D)) (ρ : Rho) : List D → β → Sto → Option (β × Sto)
  | [], b, s => if chk ck s = true then some (b, s) else none
  | d :: ds, b, s => if chk ck s = true then match g d ρ with
      | some ρ1 => match ft ρ1 s with
        | some (.ok true s1) => match bd ρ1 b s1 with
          | some (b2, s2) => clL g ft bd ck ρ ds b2 s2
          | none => none
        | some (.ok false s1) => clL g ft bd ck ρ ds b s1
        | _ => none
      | none => none
    else none
theorem wipe_wipe (vs : List Nat) (σ0 : L2.St) : L2.wipe (L2.wipe σ0 vs) vs = L2.wipe σ0 vs := by
  have gen : ∀ (us : List Nat), (∀ u ∈ us, u ∈ vs) → L2.wipe (L2.wipe σ0 us) vs = L2.wipe σ0 vs := by
    intro us
    induction us with
    | nil => intro _; rfl
    | cons u us ih =>
      intro hu
      show L2.wipe ((L2.wipe σ0 us).set u none) vs = _
      rw [wipe_in (hu u List.mem_cons_self)]
      exact ih fun w hw => hu w (List.mem_cons_of_mem _ hw)
  exact gen vs fun _ z => z
theorem ev_go {β : Type} {C : Cn} {J : It} {tg : TG} {tt : TT} {g : D → Rho → Option Rho} {ft : M Bool} {bd : Rho → β → Sto → Option (β × Sto)} {is vs : List Nat} {z : Src} {ws1 : Ws} {H1 : Hp} {σ : L2.St} {ρ : Rho} {In : β → Sto → Ws → Hp → Prop} {Bd : (Hp → Prop) → L2.St → Hp → Prop} {Fn : Hp → Prop} {bE : β} {sE : Sto}
    (hg : GOk C tg g is) (ht : EvT C.in0 tt ft) (inT : ∀ b s ws H, In b s ws H → Stq ws1 H1 ws H ∧ Sta C.T ws H s) (inS : ∀ b s s' ws H ws' H', In b s ws H → Stp ws H ws' H' → Sta C.T ws' H' s' → In b s' ws' H')
    (wk : Wk C.T J ws1 H1 z) (N : EnvOk C.T C.x ws1 H1 σ ρ) (hv : ∀ i ∈ is, i ∈ vs) (hvx : ∀ i ∈ vs, nsl C.x i)
    (body : ∀ ws H s σ2 ρ1 b b' s' (Nx : Hp → Prop), In b s ws H → EnvOk C.T C.x ws H σ2 ρ1 → bd ρ1 b s = some (b', s') → (∀ ws' H', In b' s' ws' H' → Nx H') → Bd Nx σ2 H)
    (fin : ∀ ws H, In bE sE ws H → Fn H) :
    ∃ W : Nat → Nat → Hp → Prop, (∀ b0 s0 ws0 H0, In b0 s0 ws0 H0 → clL g ft bd z.2 (wipeD ρ vs) z.1 b0 s0 = some (bE, sE) → ∃ m, W 0 m H0) ∧ VmGo J tg tt vs (L2.wipe σ vs) W Fn Bd := by
  refine ⟨fun i m H => m = z.1.length - i ∧ i ≤ z.1.length ∧ ∃ b s ws, In b s ws H ∧ clL g ft bd z.2 (wipeD ρ vs) (z.1.drop i) b s = some (bE, sE), fun b0 s0 ws0 H0 h0 hl => ⟨_, rfl, Nat.zero_le _, b0, s0, ws0, h0, by rw [List.drop_zero]; exact hl⟩, ?_⟩
  rintro i m H ⟨rfl, hi, b, s, ws, hin, hl⟩
  obtain ⟨t, S⟩ := inT _ _ _ _ hin
  by_cases lt : i < z.1.length
  · rw [List.drop_eq_getElem_cons lt] at hl
    unfold clL at hl
    split at hl
    · rename_i ck
      split at hl
      · rename_i ρ1 e1
        obtain ⟨go, yl⟩ := wk.step i z.1[i] ws H s t S ck (List.getElem?_eq_getElem lt)
        refine .inr ⟨go, fun H' => ∃ b s ws, In b s ws H' ∧ clL g ft bd z.2 (wipeD ρ vs) (z.1.drop (i + 1)) b s = some (bE, sE), fun H' h' => ⟨_, by omega, rfl, lt, h'⟩, fun x H3 y => ?_⟩
        obtain ⟨t3, S3, r3⟩ := yl x H3 y
        have NE : EnvOk C.T C.x ws H3 (L2.wipe σ vs) (wipeD ρ vs) := ((N.wipe vs hvx).stq t).stp t3
        refine hg ws H3 _ _ _ x ρ1 _ NE r3 e1 fun σ2 N2 w2 => ⟨by rw [w2 vs hv, wipe_wipe], ?_⟩
        split at hl
        · rename_i s3 e3
          refine ht ws H3 s σ2 ρ1 _ _ S3 N2 e3 True.intro fun d0 s0 e0 ws3 H4 t4 S4 => ?_
          cases e0
          rw [if_pos rfl]
          split at hl
          · rename_i b2 s2 e4
            exact body ws3 H4 s3 σ2 ρ1 b b2 s2 _ (inS _ _ _ _ _ _ _ (inS _ _ _ _ _ _ _ hin t3 S3) t4 S4) (N2.stp t4) e4 fun ws' H' h' => ⟨b2, s2, ws', h', hl⟩
          · cases hl
        · rename_i s3 e3
          refine ht ws H3 s σ2 ρ1 _ _ S3 N2 e3 True.intro fun d0 s0 e0 ws3 H4 t4 S4 => ?_
          cases e0
          rw [if_neg Bool.false_ne_true]
          exact ⟨b, s3, ws3, inS _ _ _ _ _ _ _ (inS _ _ _ _ _ _ _ hin t3 S3) t4 S4, hl⟩
        · cases hl
      · cases hl
    · cases hl
  · have e : i = z.1.length := by omega
    subst e
    rw [List.drop_length] at hl
    unfold clL at hl
    split at hl
    · rename_i ck
      cases hl
      exact .inl ⟨wk.stop ws H _ t S ck, fin ws H hin⟩
    · cases hl
end
end VM
set_option Elab.async false
set_option maxRecDepth 100000
set_option maxHeartbeats 4000000
set_option linter.all false
set_option autoImplicit false
/-! {k: v for .. for ..} by values. -/
namespace VM
open PySem L2
noncomputable section
section
variable {T : Kt} {ws : Ws} {H : Hp} {s : Sto} {p : Addr} {o : HO}
/-- a new object that is hidden -/
abbrev Ws.hide (ws : Ws) (p : Addr) : Ws := ⟨ws.own, p :: ws.hid⟩
theorem Sta.stq_hide (S : Sta T ws H s) (h : H p = none) : Stp ws H (ws.hide p) (upd H p o) :=
  ⟨List.prefix_refl _, fun _ z => List.mem_cons_of_mem _ z, fun a u e => by rw [mask_hide h]; exact e, fun a z => upd_ne fun e => (S.fresh h).2 (e ▸ z)⟩
theorem Sta.hide (S : Sta T ws H s) (h : H p = none) (ho : HidO o := by exact True.intro) : Sta T (ws.hide p) (upd H p o) s := by
  have f := S.fresh h
  refine ⟨S.nd, S.len, fun a z => ?_, fun a z => ?_, fun l a so e1 e2 => ?_, tabs_new S.tab h⟩
  · rcases List.mem_cons.mp z with e | z
    · rw [e]; exact f.1
    · exact S.dis a z
  · by_cases e : a = p
    · rw [e]; exact ⟨_, upd_same, ho⟩
    · obtain ⟨u, q, hd⟩ := S.hid a ((List.mem_cons.mp z).resolve_left e)
      exact ⟨u, by rw [upd_ne e]; exact q, hd⟩
  · obtain ⟨u, k1, k2⟩ := S.own l a so e1 e2
    exact ⟨u, by rw [upd_ne (ne_of_none k1 h)]; exact k1, k2.stp (S.stq_hide h)⟩
/-- a hidden object is written -/
theorem mask_hidden (h : p ∈ ws.hid) : mask ws (upd H p o) = mask ws H := by
  funext a
  unfold mask
  by_cases e : a = p
  · subst e
    rw [if_pos (.inr h), if_pos (.inr h)]
  · rw [upd_ne e]
theorem Sta.hput (S : Sta T ws H s) (h : p ∈ ws.hid) (tb : LamX.Tabs T.tabs (upd H p o)) (ho : HidO o := by exact True.intro) : Sta T ws (upd H p o) s := by
  refine ⟨S.nd, S.len, S.dis, fun a z => ?_, fun l a so e1 e2 => ?_, tb⟩
  · by_cases e : a = p
    · rw [e]; exact ⟨_, upd_same, ho⟩
    · rw [upd_ne e]; exact S.hid a z
  · obtain ⟨u, k1, k2⟩ := S.own l a so e1 e2
    have ne : a ≠ p := fun e => S.dis p h (e ▸ List.mem_of_getElem? e1)
    exact ⟨u, by rw [upd_ne ne]; exact k1, by rw [mask_hidden h]; exact k2⟩
/-- it is frozen from now on -/
abbrev Ws.free (ws : Ws) (p : Addr) : Ws := ⟨ws.own, ws.hid.filter fun a => decide (a ≠ p)⟩
theorem free_mem {a : Addr} (h : a ∈ (ws.free p).hid) : a ∈ ws.hid ∧ a ≠ p := by
  obtain ⟨q1, q2⟩ := List.mem_filter.mp h
  exact ⟨q1, of_decide_eq_true q2⟩
theorem free_mono (a : Addr) (u : HO) (h : mask ws H a = some u) : mask (ws.free p) H a = some u := by
  have nt := mask_nt h
  obtain ⟨n, q⟩ := mask_some h
  exact mask_in (ws := ws.free p) ⟨n.1, fun w => n.2 (free_mem w).1⟩ q nt
theorem Sta.free (S : Sta T ws H s) : Sta T (ws.free p) H s :=
  ⟨S.nd, S.len, fun a w => S.dis a (free_mem w).1, fun a w => S.hid a (free_mem w).1, fun l a so e1 e2 =>
    let ⟨u, k1, k2⟩ := S.own l a so e1 e2
    ⟨u, k1, SoRel.mono (ws := ws) (ws' := ws.free p) (List.prefix_refl _) free_mono k2⟩, S.tab⟩
theorem Sta.free_at (S : Sta T ws H s) (h : p ∈ ws.hid) (e : H p = some o) (nt : noTb (some o) = some o := by rfl) : mask (ws.free p) H p = some o := mask_in (ws := ws.free p) ⟨S.dis p h, fun w => (free_mem w).2 rfl⟩ e nt
/-- back from within: p was made within -/
theorem stp_free {ws1 : Ws} {H1 : Hp} (t : Stp ws1 H1 ws H) (n : p ∉ ws1.hid) : Stp ws1 H1 (ws.free p) H :=
  ⟨t.pre, fun a w => List.mem_filter.mpr ⟨t.hid a w, decide_eq_true fun e => n (e ▸ w)⟩, fun a u w => free_mono a u (t.fz a u w), t.hk⟩
end
/-- one item of the second clause -/
def dcB (fk fv : M D) (ρ : Rho) (b : List D × List D) (s : Sto) : Option ((List D × List D) × Sto) := match fk ρ s with
  | some (.ok y s1) => match fv ρ s1 with
    | some (.ok x s2) => (keyK y).bind fun k => if b.1.length < LIM then some (kputD k x b.1 b.2, s2) else none
    | _ => none
  | _ => none
/-- one item of the first clause -/
def cl1 {β : Type} (fi1 : M Src) (g1 : D → Rho → Option Rho) (ft1 : M Bool) (bd : Rho → β → Sto → Option (β × Sto)) (vs1 : List Nat) (ρ : Rho) (b : β) (s : Sto) : Option (β × Sto) := match fi1 ρ s with
  | some (.ok z s1) => clL g1 ft1 bd z.2 (wipeD ρ vs1) z.1 b s1
  | _ => none
def fDc2 (fi : M Src) (g : D → Rho → Option Rho) (ft : M Bool) (fi1 : M Src) (g1 : D → Rho → Option Rho) (ft1 : M Bool) (fk fv : M D) (vs vs1 : List Nat) : M D := bnd fi fun z => fun ρ s =>
  match clL g ft (cl1 fi1 g1 ft1 (dcB fk fv) vs1) z.2 (wipeD ρ vs) z.1 ([], []) s with
  | some (b, s') => some (.ok (.dct false b.1 b.2) s')
  | none => none
/-- the dict that is made, hidden -/
def DIn (T : Kt) (p : Addr) (ws1 : Ws) (H1 : Hp) (b : List D × List D) (s : Sto) (ws : Ws) (H : Hp) : Prop := p ∈ ws.hid ∧ Stq ws1 H1 ws H ∧ Sta T ws H s ∧ ∃ kvs, H p = some (.dK kvs) ∧ b.1 = kvs.map (fun q => keyD q.1) ∧ Reps T ws (mask ws H) b.2 (kvs.map (·.2))
theorem DIn.go {T : Kt} {p : Addr} {ws1 : Ws} {H1 : Hp} {b : List D × List D} {s s' : Sto} {ws ws' : Ws} {H H' : Hp} (h : DIn T p ws1 H1 b s ws H) (t : Stp ws H ws' H') (S : Sta T ws' H' s') : DIn T p ws1 H1 b s' ws' H' := by
  obtain ⟨h1, h2, _, kvs, h3, h4, h5⟩ := h
  exact ⟨t.hid _ h1, h2.trans t.q, S, kvs, (t.hk _ h1).trans h3, h4, h5.stp t⟩
theorem ev_dcB {C : Cn} {tk tv : TE} {fk fv : M D} {p : Addr} {ws1 ws : Ws} {H1 H : Hp} {s s' : Sto} {σ : L2.St} {ρ : Rho} {b b' : List D × List D} {Nx : Hp → Prop} (ek : EvS C.in0 tk fk) (ev : EvS C.in0 tv fv) (h : DIn C.T p ws1 H1 b s ws H) (N : EnvOk C.T C.x ws H σ ρ)
    (e : dcB fk fv ρ b s = some (b', s')) (q : ∀ ws' H', DIn C.T p ws1 H1 b' s' ws' H' → Stq ws H ws' H' → (∀ a ∈ ws.hid, a ≠ p → H' a = H a) → Nx H') :
    tk σ H fun y H7 => tv σ H7 fun z H8 => ∃ kvs k, y = kV k ∧ H8 p = some (.dK kvs) ∧ kvs.length < sizeLine ∧ Nx (upd H8 p (.dK (putK kvs k z))) := by
  unfold dcB at e
  split at e
  · rename_i yd s1 e1
    refine ek ws H s σ ρ _ _ h.2.2.1 N e1 True.intro fun d0 s0 e0 y ws2 H2 t2 S2 r2 => ?_
    cases e0
    split at e
    · rename_i xd s2 e2
      refine ev ws2 H2 s1 σ ρ _ _ S2 (N.stp t2) e2 True.intro fun d0 s0 e0 z ws3 H3 t3 S3 r3 => ?_
      cases e0
      obtain ⟨k, hk, e⟩ := Option.bind_eq_some_iff.mp e
      split at e
      · rename_i lt
        cases e
        obtain ⟨g1, g2, g3, kvs, g4, g5, g6⟩ := (h.go t2 S2).go t3 S3
        obtain ⟨p1, p2⟩ := kputD_ok (k := k) r3 g6
        rw [g5] at lt
        have tt := t2.trans t3
        refine ⟨kvs, k, keyK_rep (r2.stp t3) hk, g4, lim_lt (by simpa using lt), q ws3 _ ⟨g1, ⟨g2.pre, g2.hid, fun a u w => by rw [mask_hidden g1]; exact g2.fz a u w⟩, g3.hput g1 (tabs_dK g3.tab g4), _, upd_same, ?_, ?_⟩ ⟨tt.pre, tt.hid, fun a u w => by rw [mask_hidden g1]; exact tt.fz a u w⟩ fun a w ne => (upd_ne ne).trans (tt.hk a w)⟩
        · rw [g5]; exact p1
        · rw [g5, mask_hidden g1]; exact p2
      · cases e
    · cases e
  · cases e
theorem ev_dc2 {C : Cn} {wi wi1 : TI} {tg tg1 : TG} {tt tt1 : TT} {tk tv : TE} {fi fi1 : M Src} {g g1 : D → Rho → Option Rho} {ft ft1 : M Bool} {fk fv : M D} {is is1 vs vs1 : List Nat} (hi : EvI C wi fi) (hg : GOk C tg g is) (ht : EvT C.in0 tt ft) (hi1 : EvI C.in0 wi1 fi1) (hg1 : GOk C tg1 g1 is1) (ht1 : EvT C.in0 tt1 ft1)
    (ek : EvS C.in0 tk fk) (ev : EvS C.in0 tv fv) (hv : ∀ i ∈ is, i ∈ vs) (hv1 : ∀ i ∈ is1, i ∈ vs1) (hvx : ∀ i ∈ vs, nsl C.x i) (hvx1 : ∀ i ∈ vs1, nsl C.x i) : EvS C (tVmDc2 wi tg tt wi1 tg1 tt1 tk tv vs vs1) (fDc2 fi g ft fi1 g1 ft1 fk fv vs vs1) := by
  intro ws H s σ ρ R Q S N h xx q
  unfold fDc2 bnd at h
  split at h
  rotate_left
  · rename_i e s1 h1
    cases h
    exact hi ws H s σ ρ _ _ S N h1 xx fun z s' e => nomatch e
  · cases h
  rename_i z s1 h1
  dsimp only at h
  split at h
  · rename_i bE sE hl
    cases h
    refine hi ws H s σ ρ _ _ S N h1 True.intro fun z' s1' ez J ws1 H1 t1 S1 wk p hp => ?_
    cases ez
    have start : DIn C.T p ws1 H1 ([], []) s1 (ws1.hide p) (upd H1 p (.dK [])) := ⟨List.mem_cons_self, (S1.stq_hide hp).q, S1.hide hp, [], upd_same, rfl, rfl⟩
    -- what is more within: the hidden objects that were there stay
    let In : List D × List D → Sto → Ws → Hp → Prop := fun b s ws H => DIn C.T p ws1 H1 b s ws H ∧ ∀ a ∈ ws1.hid, H a = H1 a
    have pn : p ∉ ws1.hid := (S1.fresh hp).2
    have step : ∀ b s s' ws H ws' H', In b s ws H → Stp ws H ws' H' → Sta C.T ws' H' s' → In b s' ws' H' := fun b s s' ws H ws' H' h t S => ⟨h.1.go t S, fun a w => (t.hk a (h.1.2.1.hid a w)).trans (h.2 a w)⟩
    refine Exists.elim (ev_go (In := In) (Bd := fun Nx σ2 H3 => wi1 σ2 H3 fun J1 H4 => ∃ W1 : Nat → Nat → Hp → Prop, (∃ m, W1 0 m H4) ∧
      VmGo J1 tg1 tt1 vs1 (L2.wipe σ2 vs1) W1 Nx fun Nx1 σ3 H6 => tk σ3 H6 fun y H7 => tv σ3 H7 fun z H8 => ∃ kvs k, y = kV k ∧ H8 p = some (.dK kvs) ∧ kvs.length < sizeLine ∧ Nx1 (upd H8 p (.dK (putK kvs k z))))
      (Fn := fun H => Q (.ref p) H) (bd := cl1 fi1 g1 ft1 (dcB fk fv) vs1) (bE := bE) (sE := sE) hg ht (fun b s ws H h => ⟨h.1.2.1, h.1.2.2.1⟩) step wk (N.stp t1) hv hvx ?_ ?_) fun W hW => ⟨W, hW.1 _ _ _ _ ⟨start, fun a w => upd_ne fun e => pn (e ▸ w)⟩ hl, hW.2⟩
    · intro ws2 H2 s2 σ2 ρ1 b b' s' Nx hin N2 e nx
      unfold cl1 at e
      split at e
      · rename_i z1 s3 e3
        refine hi1 ws2 H2 s2 σ2 ρ1 _ _ hin.1.2.2.1 N2 e3 True.intro fun z' s' ez J1 ws3 H3 t3 S3 wk1 => ?_
        cases ez
        have in3 := step _ _ _ _ _ _ _ hin t3 S3
        refine Exists.elim (ev_go (In := fun b s ws H => In b s ws H ∧ Stq ws3 H3 ws H) (Bd := fun Nx1 σ3 H6 => tk σ3 H6 fun y H7 => tv σ3 H7 fun z H8 => ∃ kvs k, y = kV k ∧ H8 p = some (.dK kvs) ∧ kvs.length < sizeLine ∧ Nx1 (upd H8 p (.dK (putK kvs k z))))
          (Fn := Nx) (bd := dcB fk fv) (bE := b') (sE := s') hg1 ht1 (fun b s ws H h => ⟨h.2, h.1.1.2.2.1⟩) (fun b s s' ws H ws' H' h t S => ⟨step _ _ _ _ _ _ _ h.1 t S, h.2.trans t.q⟩) wk1 (N2.stp t3) hv1 hvx1 ?_ (fun ws H h => nx ws H h.1)) fun W1 hW => ⟨W1, hW.1 _ _ _ _ ⟨in3, (Stp.refl _ _).q⟩ e, hW.2⟩
        · intro ws4 H4 s4 σ4 ρ4 b4 b5 s5 Nx1 h4 N4 e4 nx1
          exact ev_dcB ek ev h4.1.1 N4 e4 fun ws' H' d t k => nx1 ws' H' ⟨⟨d, fun a w => (k a (h4.1.1.2.1.hid a w) fun e => pn (e ▸ w)).trans (h4.1.2 a w)⟩, h4.2.trans t⟩
      · cases e
    · intro ws2 H2 hin
      obtain ⟨⟨g1', g2, g3, kvs, g4, g5, g6⟩, g7⟩ := hin
      have t : Stp ws1 H1 (ws2.free p) H2 := stp_free ⟨g2.pre, g2.hid, g2.fz, g7⟩ pn
      refine q _ _ rfl (.ref p) (ws2.free p) H2 (t1.trans t) g3.free ⟨p, rfl, .inl ⟨rfl, kvs, g3.free_at g1' g4, g5, ?_⟩⟩
      exact Reps.mono (ws := ws2) (ws' := ws2.free p) (List.prefix_refl _) free_mono _ _ g6
  · cases h
end
end VM
set_option Elab.async false
set_option maxRecDepth 100000
set_option maxHeartbeats 4000000
set_option linter.all false
set_option autoImplicit false
/-! The rule of {k: v for .. for ..}. -/
namespace VM
open PySem L2
noncomputable section
theorem unify_I {ι : Type} {Y : ι → Cx} {C : Cn} {tg e : Expr} {f : M Src} (h : ∀ p, DI (Y p) C tg e f) : ∃ wi, (∀ p, PI (Y p) tg e wi) ∧ EvI C wi f := by
  have hT := fun p => Classical.choose_spec (h p).ex
  exact ⟨fun σ H R => ∀ p, Classical.choose (h p).ex σ H R, fun p => ⟨fun pins s σ H R I hw => (hT p).1.run pins s σ H R I (hw p)⟩, fun ws H s σ ρ r R S N h1 xx q p => (hT p).2 ws H s σ ρ r R S N h1 xx q⟩
section
variable {X : Cx} {C : Cn} {kx vx tg iter tg1 iter1 : Expr} {ifs ifs1 : List Expr} {scope : Scope} {own : List (Str × Nat)} {pos : Pos} {fi fi1 : M Src} {g g1 : D → Rho → Option Rho} {ft ft1 : M Bool} {fk fv : M D} {is is1 vs1 : List Nat}
theorem de_dc2 (hc : X.calm = true) (hN : X.N.Nodup) (hi : DI X C tg iter fi) (ok : BlkOk X.N X.env.scope scope own) (hv : ∀ i ∈ is, i ∈ own.map (·.2)) (hv1 : ∀ i ∈ is1, i ∈ vs1) (hvs : ∀ i ∈ vs1, i ∈ own.map (·.2))
    (hg : ∀ b : Blk, DG (b.cx X scope) C.in0 tg g is) (ht : ∀ b : Blk, DTs (b.cx X scope) C.in0 ifs ft) (hi1 : ∀ b : Blk, DI (b.cx X scope) C.in0 tg1 iter1 fi1) (hg1 : ∀ b : Blk, DG (b.cx X scope) C.in0 tg1 g1 is1) (ht1 : ∀ b : Blk, DTs (b.cx X scope) C.in0 ifs1 ft1)
    (hk : ∀ b : Blk, DE (b.cx X scope) C.in0 kx fk) (he : ∀ b : Blk, DE (b.cx X scope) C.in0 vx fv)
    (hvx : ∀ i ∈ own.map (·.2), nsl C.x i := by exact nsl_none)
    (hs : ∀ x, foldedSetIterable iter X.env x = pure x := by intro _; rfl) (hs1 : ∀ env x, foldedSetIterable iter1 env x = pure x := by intro _ _; rfl) :
    DE X C (.DictComp kx vx [⟨tg, iter, ifs, 0⟩, ⟨tg1, iter1, ifs1, 0⟩] scope pos) (fDc2 fi g ft fi1 g1 ft1 fk fv (own.map (·.2)) vs1) :=
  let ⟨_, pi, ei⟩ := hi.ex
  let ⟨_, pg, eg⟩ := unify_G (C := C.in0) (Y := fun b : Blk => b.cx X scope) hg
  let ⟨_, pt, et⟩ := unify_T (C := C.in0) (Y := fun b : Blk => b.cx X scope) ht
  let ⟨_, pi1, ei1⟩ := unify_I (C := C.in0) (Y := fun b : Blk => b.cx X scope) hi1
  let ⟨_, pg1, eg1⟩ := unify_G (C := C.in0) (Y := fun b : Blk => b.cx X scope) hg1
  let ⟨_, pt1, et1⟩ := unify_T (C := C.in0) (Y := fun b : Blk => b.cx X scope) ht1
  let ⟨_, pk, ek⟩ := unify_E (C := C.in0) (Y := fun b : Blk => b.cx X scope) hk
  let ⟨_, pv, ev⟩ := unify_E (C := C.in0) (Y := fun b : Blk => b.cx X scope) he
  ⟨_, vm_pe_dc2 hc hN pi ok hvs (fun s H Ca cl fp => ⟨pg ⟨s, H, Ca, cl, fp⟩, pt ⟨s, H, Ca, cl, fp⟩, pi1 ⟨s, H, Ca, cl, fp⟩, pg1 ⟨s, H, Ca, cl, fp⟩, pt1 ⟨s, H, Ca, cl, fp⟩, pk ⟨s, H, Ca, cl, fp⟩, pv ⟨s, H, Ca, cl, fp⟩⟩) hs hs1,
    ev_dc2 ei eg et ei1 eg1 et1 ek ev hv hv1 hvx fun i h => hvx i (hvs i h)⟩
end
end
end VM
set_option Elab.async false
set_option maxRecDepth 100000
set_option maxHeartbeats 4000000
set_option linter.all false
set_option autoImplicit false
/-! [e for .. for ..] by values. -/
namespace VM
open PySem L2
noncomputable section
/-- one item of the second clause -/
def lcB (fe : M D) (ρ : Rho) (b : List D) (s : Sto) : Option (List D × Sto) := match fe ρ s with
  | some (.ok y s1) => if b.length < LIM then some (b ++ [y], s1) else none
  | _ => none
def fLc2 (fi : M Src) (g : D → Rho → Option Rho) (ft : M Bool) (fi1 : M Src) (g1 : D → Rho → Option Rho) (ft1 : M Bool) (fe : M D) (vs vs1 : List Nat) : M D := bnd fi fun z => fun ρ s =>
  match clL g ft (cl1 fi1 g1 ft1 (lcB fe) vs1) z.2 (wipeD ρ vs) z.1 [] s with
  | some (b, s') => some (.ok (.lst b) s')
  | none => none
/-- the list that is made, hidden -/
def LIn (T : Kt) (p : Addr) (ws1 : Ws) (H1 : Hp) (b : List D) (s : Sto) (ws : Ws) (H : Hp) : Prop := p ∈ ws.hid ∧ Stq ws1 H1 ws H ∧ Sta T ws H s ∧ ∃ xs, H p = some (.lst xs) ∧ Reps T ws (mask ws H) b xs
theorem LIn.go {T : Kt} {p : Addr} {ws1 : Ws} {H1 : Hp} {b : List D} {s s' : Sto} {ws ws' : Ws} {H H' : Hp} (h : LIn T p ws1 H1 b s ws H) (t : Stp ws H ws' H') (S : Sta T ws' H' s') : LIn T p ws1 H1 b s' ws' H' := by
  obtain ⟨h1, h2, _, xs, h3, h5⟩ := h
  exact ⟨t.hid _ h1, h2.trans t.q, S, xs, (t.hk _ h1).trans h3, h5.stp t⟩
theorem ev_lcB {C : Cn} {te : TE} {fe : M D} {p : Addr} {ws1 ws : Ws} {H1 H : Hp} {s s' : Sto} {σ : L2.St} {ρ : Rho} {b b' : List D} {Nx : Hp → Prop} (ee : EvS C.in0 te fe) (h : LIn C.T p ws1 H1 b s ws H) (N : EnvOk C.T C.x ws H σ ρ)
    (e : lcB fe ρ b s = some (b', s')) (q : ∀ ws' H', LIn C.T p ws1 H1 b' s' ws' H' → Stq ws H ws' H' → (∀ a ∈ ws.hid, a ≠ p → H' a = H a) → Nx H') :
    te σ H fun y H7 => ∃ acc, H7 p = some (.lst acc) ∧ acc.length < sizeLine ∧ Nx (upd H7 p (.lst (acc ++ [y]))) := by
  unfold lcB at e
  split at e
  · rename_i yd s1 e1
    refine ee ws H s σ ρ _ _ h.2.2.1 N e1 True.intro fun d0 s0 e0 y ws2 H2 tt S2 r2 => ?_
    cases e0
    split at e
    · rename_i lt
      cases e
      obtain ⟨g1, g2, g3, xs, g4, g6⟩ := h.go tt S2
      refine ⟨xs, g4, lim_lt (by rw [← g6.length]; exact lt), q ws2 _ ⟨g1, ⟨g2.pre, g2.hid, fun a u w => by rw [mask_hidden g1]; exact g2.fz a u w⟩, g3.hput g1 (tabs_lst g3.tab g4), _, upd_same, ?_⟩ ⟨tt.pre, tt.hid, fun a u w => by rw [mask_hidden g1]; exact tt.fz a u w⟩ fun a w ne => (upd_ne ne).trans (tt.hk a w)⟩
      rw [mask_hidden g1]
      exact g6.append ⟨y, [], rfl, r2, rfl⟩
    · cases e
  · cases e
theorem ev_lc2 {C : Cn} {wi wi1 : TI} {tg tg1 : TG} {tt tt1 : TT} {te : TE} {fi fi1 : M Src} {g g1 : D → Rho → Option Rho} {ft ft1 : M Bool} {fe : M D} {is is1 vs vs1 : List Nat} (hi : EvI C wi fi) (hg : GOk C tg g is) (ht : EvT C.in0 tt ft) (hi1 : EvI C.in0 wi1 fi1) (hg1 : GOk C tg1 g1 is1) (ht1 : EvT C.in0 tt1 ft1)
    (ee : EvS C.in0 te fe) (hv : ∀ i ∈ is, i ∈ vs) (hv1 : ∀ i ∈ is1, i ∈ vs1) (hvx : ∀ i ∈ vs, nsl C.x i) (hvx1 : ∀ i ∈ vs1, nsl C.x i) : EvS C (tLc2 wi tg tt wi1 tg1 tt1 te vs vs1) (fLc2 fi g ft fi1 g1 ft1 fe vs vs1) := by
  intro ws H s σ ρ R Q S N h xx q
  unfold fLc2 bnd at h
  split at h
  rotate_left
  · rename_i e s1 h1
    cases h
    exact hi ws H s σ ρ _ _ S N h1 xx fun z s' e => nomatch e
  · cases h
  rename_i z s1 h1
  dsimp only at h
  split at h
  · rename_i bE sE hl
    cases h
    refine hi ws H s σ ρ _ _ S N h1 True.intro fun z' s1' ez J ws1 H1 t1 S1 wk p hp => ?_
    cases ez
    have start : LIn C.T p ws1 H1 [] s1 (ws1.hide p) (upd H1 p (.lst [])) := ⟨List.mem_cons_self, (S1.stq_hide hp).q, S1.hide hp, [], upd_same, rfl⟩
    -- what is more within: the hidden objects that were there stay
    let In : List D → Sto → Ws → Hp → Prop := fun b s ws H => LIn C.T p ws1 H1 b s ws H ∧ ∀ a ∈ ws1.hid, H a = H1 a
    have pn : p ∉ ws1.hid := (S1.fresh hp).2
    have step : ∀ b s s' ws H ws' H', In b s ws H → Stp ws H ws' H' → Sta C.T ws' H' s' → In b s' ws' H' := fun b s s' ws H ws' H' h t S => ⟨h.1.go t S, fun a w => (t.hk a (h.1.2.1.hid a w)).trans (h.2 a w)⟩
    refine Exists.elim (ev_go (In := In) (Bd := fun Nx σ2 H3 => wi1 σ2 H3 fun J1 H4 => ∃ W1 : Nat → Nat → Hp → Prop, (∃ m, W1 0 m H4) ∧
      VmGo J1 tg1 tt1 vs1 (L2.wipe σ2 vs1) W1 Nx fun Nx1 σ3 H6 => te σ3 H6 fun y H7 => ∃ acc, H7 p = some (.lst acc) ∧ acc.length < sizeLine ∧ Nx1 (upd H7 p (.lst (acc ++ [y]))))
      (Fn := fun H => Q (.ref p) H) (bd := cl1 fi1 g1 ft1 (lcB fe) vs1) (bE := bE) (sE := sE) hg ht (fun b s ws H h => ⟨h.1.2.1, h.1.2.2.1⟩) step wk (N.stp t1) hv hvx ?_ ?_) fun W hW => ⟨W, hW.1 _ _ _ _ ⟨start, fun a w => upd_ne fun e => pn (e ▸ w)⟩ hl, hW.2⟩
    · intro ws2 H2 s2 σ2 ρ1 b b' s' Nx hin N2 e nx
      unfold cl1 at e
      split at e
      · rename_i z1 s3 e3
        refine hi1 ws2 H2 s2 σ2 ρ1 _ _ hin.1.2.2.1 N2 e3 True.intro fun z' s' ez J1 ws3 H3 t3 S3 wk1 => ?_
        cases ez
        have in3 := step _ _ _ _ _ _ _ hin t3 S3
        refine Exists.elim (ev_go (In := fun b s ws H => In b s ws H ∧ Stq ws3 H3 ws H) (Bd := fun Nx1 σ3 H6 => te σ3 H6 fun y H7 => ∃ acc, H7 p = some (.lst acc) ∧ acc.length < sizeLine ∧ Nx1 (upd H7 p (.lst (acc ++ [y]))))
          (Fn := Nx) (bd := lcB fe) (bE := b') (sE := s') hg1 ht1 (fun b s ws H h => ⟨h.2, h.1.1.2.2.1⟩) (fun b s s' ws H ws' H' h t S => ⟨step _ _ _ _ _ _ _ h.1 t S, h.2.trans t.q⟩) wk1 (N2.stp t3) hv1 hvx1 ?_ (fun ws H h => nx ws H h.1)) fun W1 hW => ⟨W1, hW.1 _ _ _ _ ⟨in3, (Stp.refl _ _).q⟩ e, hW.2⟩
        · intro ws4 H4 s4 σ4 ρ4 b4 b5 s5 Nx1 h4 N4 e4 nx1
          exact ev_lcB ee h4.1.1 N4 e4 fun ws' H' d t k => nx1 ws' H' ⟨⟨d, fun a w => (k a (h4.1.1.2.1.hid a w) fun e => pn (e ▸ w)).trans (h4.1.2 a w)⟩, h4.2.trans t⟩
      · cases e
    · intro ws2 H2 hin
      obtain ⟨⟨g1', g2, g3, xs, g4, g6⟩, g7⟩ := hin
      have t : Stp ws1 H1 (ws2.free p) H2 := stp_free ⟨g2.pre, g2.hid, g2.fz, g7⟩ pn
      refine q _ _ rfl (.ref p) (ws2.free p) H2 (t1.trans t) g3.free ⟨p, xs, rfl, g3.free_at g1' g4, ?_⟩
      exact Reps.mono (ws := ws2) (ws' := ws2.free p) (List.prefix_refl _) free_mono _ _ g6
  · cases h
section
variable {X : Cx} {C : Cn} {elt tg iter tg1 iter1 : Expr} {ifs ifs1 : List Expr} {scope : Scope} {own : List (Str × Nat)} {pos : Pos} {fi fi1 : M Src} {g g1 : D → Rho → Option Rho} {ft ft1 : M Bool} {fe : M D} {is is1 vs1 : List Nat}
theorem de_lc2 (hc : X.calm = true) (hN : X.N.Nodup) (hi : DI X C tg iter fi) (ok : BlkOk X.N X.env.scope scope own) (hv : ∀ i ∈ is, i ∈ own.map (·.2)) (hv1 : ∀ i ∈ is1, i ∈ vs1) (hvs : ∀ i ∈ vs1, i ∈ own.map (·.2))
    (hg : ∀ b : Blk, DG (b.cx X scope) C.in0 tg g is) (ht : ∀ b : Blk, DTs (b.cx X scope) C.in0 ifs ft) (hi1 : ∀ b : Blk, DI (b.cx X scope) C.in0 tg1 iter1 fi1) (hg1 : ∀ b : Blk, DG (b.cx X scope) C.in0 tg1 g1 is1) (ht1 : ∀ b : Blk, DTs (b.cx X scope) C.in0 ifs1 ft1)
    (he : ∀ b : Blk, DE (b.cx X scope) C.in0 elt fe) (hvx : ∀ i ∈ own.map (·.2), nsl C.x i := by exact nsl_none)
    (hs : ∀ x, foldedSetIterable iter X.env x = pure x := by intro _; rfl) (hs1 : ∀ env x, foldedSetIterable iter1 env x = pure x := by intro _ _; rfl) :
    DE X C (.ListComp elt [⟨tg, iter, ifs, 0⟩, ⟨tg1, iter1, ifs1, 0⟩] scope pos) (fLc2 fi g ft fi1 g1 ft1 fe (own.map (·.2)) vs1) :=
  let ⟨_, pi, ei⟩ := hi.ex
  let ⟨_, pg, eg⟩ := unify_G (C := C.in0) (Y := fun b : Blk => b.cx X scope) hg
  let ⟨_, pt, et⟩ := unify_T (C := C.in0) (Y := fun b : Blk => b.cx X scope) ht
  let ⟨_, pi1, ei1⟩ := unify_I (C := C.in0) (Y := fun b : Blk => b.cx X scope) hi1
  let ⟨_, pg1, eg1⟩ := unify_G (C := C.in0) (Y := fun b : Blk => b.cx X scope) hg1
  let ⟨_, pt1, et1⟩ := unify_T (C := C.in0) (Y := fun b : Blk => b.cx X scope) ht1
  let ⟨_, pe, ee⟩ := unify_E (C := C.in0) (Y := fun b : Blk => b.cx X scope) he
  ⟨_, pe_lc2 hc hN pi ok hvs (fun s H Ca cl fp => pg ⟨s, H, Ca, cl, fp⟩) (fun s H Ca cl fp => pt ⟨s, H, Ca, cl, fp⟩) (fun s H Ca cl fp => pi1 ⟨s, H, Ca, cl, fp⟩) (fun s H Ca cl fp => pg1 ⟨s, H, Ca, cl, fp⟩) (fun s H Ca cl fp => pt1 ⟨s, H, Ca, cl, fp⟩) (fun s H Ca cl fp => pe ⟨s, H, Ca, cl, fp⟩) hs hs1,
    ev_lc2 ei eg et ei1 eg1 et1 ee hv hv1 hvx fun i h => hvx i (hvs i h)⟩
theorem ds_setLc2 (j : Nat) {y : Str} {py spos : Pos} (hc : X.calm = true) (hN : X.N.Nodup) (hi : DI X C tg iter fi) (ok : BlkOk X.N X.env.scope scope own) (hv : ∀ i ∈ is, i ∈ own.map (·.2)) (hv1 : ∀ i ∈ is1, i ∈ vs1) (hvs : ∀ i ∈ vs1, i ∈ own.map (·.2))
    (hg : ∀ b : Blk, DG (b.cx X scope) C.in0 tg g is) (ht : ∀ b : Blk, DTs (b.cx X scope) C.in0 ifs ft) (hi1 : ∀ b : Blk, DI (b.cx X scope) C.in0 tg1 iter1 fi1) (hg1 : ∀ b : Blk, DG (b.cx X scope) C.in0 tg1 g1 is1) (ht1 : ∀ b : Blk, DTs (b.cx X scope) C.in0 ifs1 ft1)
    (he : ∀ b : Blk, DE (b.cx X scope) C.in0 elt fe)
    (hsw : swapsWith (.ListComp elt [⟨tg, iter, ifs, 0⟩, ⟨tg1, iter1, ifs1, 0⟩] scope pos) (some (.Name y py)) spos.line X.env = pure true)
    (hvx : ∀ i ∈ own.map (·.2), nsl C.x i := by exact nsl_none) (hns : nsl C.x j := by first | exact True.intro | (show (_ : Nat) ≠ _; decide))
    (hy : X.N[j]? = some y := by rfl) (hyl : X.env.scope.names.lookup y = some .local := by rfl)
    (hs : ∀ x, foldedSetIterable iter X.env x = pure x := by intro _; rfl) (hs1 : ∀ env x, foldedSetIterable iter1 env x = pure x := by intro _ _; rfl) :
    DS X C (.Assign [.Name y py] (.ListComp elt [⟨tg, iter, ifs, 0⟩, ⟨tg1, iter1, ifs1, 0⟩] scope pos) spos) (fAsg (fLc2 fi g ft fi1 g1 ft1 fe (own.map (·.2)) vs1) (gNm j)) :=
  let ⟨_, pi, ei⟩ := hi.ex
  let ⟨_, pg, eg⟩ := unify_G (C := C.in0) (Y := fun b : Blk => b.cx X scope) hg
  let ⟨_, pt, et⟩ := unify_T (C := C.in0) (Y := fun b : Blk => b.cx X scope) ht
  let ⟨_, pi1, ei1⟩ := unify_I (C := C.in0) (Y := fun b : Blk => b.cx X scope) hi1
  let ⟨_, pg1, eg1⟩ := unify_G (C := C.in0) (Y := fun b : Blk => b.cx X scope) hg1
  let ⟨_, pt1, et1⟩ := unify_T (C := C.in0) (Y := fun b : Blk => b.cx X scope) ht1
  let ⟨_, pe, ee⟩ := unify_E (C := C.in0) (Y := fun b : Blk => b.cx X scope) he
  ⟨_, ps_setLc2 hc hN hy hyl hsw pi ok hvs (fun s H Ca cl fp => pg ⟨s, H, Ca, cl, fp⟩) (fun s H Ca cl fp => pt ⟨s, H, Ca, cl, fp⟩) (fun s H Ca cl fp => pi1 ⟨s, H, Ca, cl, fp⟩) (fun s H Ca cl fp => pg1 ⟨s, H, Ca, cl, fp⟩) (fun s H Ca cl fp => pt1 ⟨s, H, Ca, cl, fp⟩) (fun s H Ca cl fp => pe ⟨s, H, Ca, cl, fp⟩) hs hs1,
    ev_asg (is := [j]) (ev_lc2 ei eg et ei1 eg1 et1 ee hv hv1 hvx fun i h => hvx i (hvs i h)) (gok_nm hns)⟩
end
end
end VM
set_option Elab.async false
set_option maxRecDepth 100000
set_option maxHeartbeats 4000000
set_option linter.all false
set_option autoImplicit false
/-! {k: v for ..}. -/
namespace VM
open PySem L2
noncomputable section
def fDc (fi : M Src) (g : D → Rho → Option Rho) (ft : M Bool) (fk fv : M D) (vs : List Nat) : M D := bnd fi fun z => fun ρ s =>
  match clL g ft (dcB fk fv) z.2 (wipeD ρ vs) z.1 ([], []) s with
  | some (b, s') => some (.ok (.dct false b.1 b.2) s')
  | none => none
theorem ev_dc {C : Cn} {wi : TI} {tg : TG} {tt : TT} {tk tv : TE} {fi : M Src} {g : D → Rho → Option Rho} {ft : M Bool} {fk fv : M D} {is vs : List Nat} (hi : EvI C wi fi) (hg : GOk C tg g is) (ht : EvT C.in0 tt ft)
    (ek : EvS C.in0 tk fk) (ev : EvS C.in0 tv fv) (hv : ∀ i ∈ is, i ∈ vs) (hvx : ∀ i ∈ vs, nsl C.x i) : EvS C (tDc wi tg tt tk tv vs) (fDc fi g ft fk fv vs) := by
  intro ws H s σ ρ R Q S N h xx q
  unfold fDc bnd at h
  split at h
  rotate_left
  · rename_i e s1 h1
    cases h
    exact hi ws H s σ ρ _ _ S N h1 xx fun z s' e => nomatch e
  · cases h
  rename_i z s1 h1
  dsimp only at h
  split at h
  · rename_i bE sE hl
    cases h
    refine hi ws H s σ ρ _ _ S N h1 True.intro fun z' s1' ez J ws1 H1 t1 S1 wk p hp => ?_
    cases ez
    have pn : p ∉ ws1.hid := (S1.fresh hp).2
    have start : DIn C.T p ws1 H1 ([], []) s1 (ws1.hide p) (upd H1 p (.dK [])) := ⟨List.mem_cons_self, (S1.stq_hide hp).q, S1.hide hp, [], upd_same, rfl, rfl⟩
    refine Exists.elim (ev_go (In := fun b s ws H => DIn C.T p ws1 H1 b s ws H ∧ ∀ a ∈ ws1.hid, H a = H1 a) (Bd := fun Nx σ2 H3 => tk σ2 H3 fun y H4 => tv σ2 H4 fun z H5 => ∃ kvs k, y = kV k ∧ H5 p = some (.dK kvs) ∧ kvs.length < sizeLine ∧ Nx (upd H5 p (.dK (putK kvs k z))))
      (Fn := fun H => Q (.ref p) H) (bd := dcB fk fv) (bE := bE) (sE := sE) hg ht (fun b s ws H h => ⟨h.1.2.1, h.1.2.2.1⟩) (fun b s s' ws H ws' H' h t S => ⟨h.1.go t S, fun a w => (t.hk a (h.1.2.1.hid a w)).trans (h.2 a w)⟩) wk (N.stp t1) hv hvx ?_ ?_)
      fun W hW => ⟨W, hW.1 _ _ _ _ ⟨start, fun a w => upd_ne fun e => pn (e ▸ w)⟩ hl, hW.2⟩
    · intro ws4 H4 s4 σ4 ρ4 b4 b5 s5 Nx1 h4 N4 e4 nx1
      exact ev_dcB ek ev h4.1 N4 e4 fun ws' H' d t k => nx1 ws' H' ⟨d, fun a w => (k a (h4.1.2.1.hid a w) fun e => pn (e ▸ w)).trans (h4.2 a w)⟩
    · intro ws2 H2 hin
      obtain ⟨⟨g1', g2, g3, kvs, g4, g5, g6⟩, g7⟩ := hin
      have t : Stp ws1 H1 (ws2.free p) H2 := stp_free ⟨g2.pre, g2.hid, g2.fz, g7⟩ pn
      refine q _ _ rfl (.ref p) (ws2.free p) H2 (t1.trans t) g3.free ⟨p, rfl, .inl ⟨rfl, kvs, g3.free_at g1' g4, g5, ?_⟩⟩
      exact Reps.mono (ws := ws2) (ws' := ws2.free p) (List.prefix_refl _) free_mono _ _ g6
  · cases h
section
variable {X : Cx} {C : Cn} {kx vx tg iter : Expr} {ifs : List Expr} {scope : Scope} {own : List (Str × Nat)} {pos : Pos} {fi : M Src} {g : D → Rho → Option Rho} {ft : M Bool} {fk fv : M D} {is : List Nat}
theorem de_dc (hc : X.calm = true) (hN : X.N.Nodup) (hi : DI X C tg iter fi) (ok : BlkOk X.N X.env.scope scope own) (hv : ∀ i ∈ is, i ∈ own.map (·.2))
    (hg : ∀ b : Blk, DG (b.cx X scope) C.in0 tg g is) (ht : ∀ b : Blk, DTs (b.cx X scope) C.in0 ifs ft) (hk : ∀ b : Blk, DE (b.cx X scope) C.in0 kx fk) (he : ∀ b : Blk, DE (b.cx X scope) C.in0 vx fv)
    (hvx : ∀ i ∈ own.map (·.2), nsl C.x i := by exact nsl_none) (hs : ∀ x, foldedSetIterable iter X.env x = pure x := by intro _; rfl) :
    DE X C (.DictComp kx vx [⟨tg, iter, ifs, 0⟩] scope pos) (fDc fi g ft fk fv (own.map (·.2))) :=
  let ⟨_, pi, ei⟩ := hi.ex
  let ⟨_, pg, eg⟩ := unify_G (C := C.in0) (Y := fun b : Blk => b.cx X scope) hg
  let ⟨_, pt, et⟩ := unify_T (C := C.in0) (Y := fun b : Blk => b.cx X scope) ht
  let ⟨_, pk, ek⟩ := unify_E (C := C.in0) (Y := fun b : Blk => b.cx X scope) hk
  let ⟨_, pv, ev⟩ := unify_E (C := C.in0) (Y := fun b : Blk => b.cx X scope) he
  ⟨_, pe_dc hc hN pi ok (fun s H Ca cl fp => pg ⟨s, H, Ca, cl, fp⟩) (fun s H Ca cl fp => pt ⟨s, H, Ca, cl, fp⟩) (fun s H Ca cl fp => pk ⟨s, H, Ca, cl, fp⟩) (fun s H Ca cl fp => pv ⟨s, H, Ca, cl, fp⟩) hs, ev_dc ei eg et ek ev hv hvx⟩
end
end
end VM
set_option Elab.async false
set_option maxRecDepth 100000
set_option maxHeartbeats 4000000
set_option linter.all false
set_option autoImplicit false
/-! Lambdas with parameters, handed to a def. -/
namespace VM
open PySem PySem.Spec PyProof.Rows L2 LamX
noncomputable section

/-- the lambda's names: its parameters (slots js of N), captured ones, globals -/
structure LamP (N : List Str) (sc scope : Scope) (ps : List Str) (js : List Nat) : Prop where
  kind : scope.kind = .function
  co : scope.isCoroutine = false
  gen : scope.isGenerator = false
  own : ∀ y ∈ scope.names, y.2 ≠ .cell ∧ (y.2 = .local → y.1 ∈ ps)
  free : ∀ y ∈ scope.names, y.2 = .free → sc.names.lookup y.1 = some .cell ∨ sc.names.lookup y.1 = some .free
  par : ∀ x ∈ ps, scope.names.lookup x = some .local
  nd : N.Nodup
  jd : js.Nodup
  slot : js.map (fun j => N[j]?) = ps.map some
  pd : ps.Nodup
def lamPB (N : List Str) (sc scope : Scope) (ps : List Str) (js : List Nat) : Bool :=
  decide (scope.kind = .function) && !scope.isCoroutine && !scope.isGenerator && (scope.names.all fun y => !decide (y.2 = .cell) && (!decide (y.2 = .local) || decide (y.1 ∈ ps)) && (!decide (y.2 = .free) || decide (sc.names.lookup y.1 = some .cell) || decide (sc.names.lookup y.1 = some .free))) &&
    (ps.all fun x => decide (scope.names.lookup x = some .local)) && decide N.Nodup && decide js.Nodup && decide (js.map (fun j => N[j]?) = ps.map some) && decide ps.Nodup
theorem lamP_by {N : List Str} {sc scope : Scope} {ps : List Str} {js : List Nat} (h : lamPB N sc scope ps js = true) : LamP N sc scope ps js := by
  unfold lamPB at h
  simp only [Bool.and_eq_true, Bool.or_eq_true, Bool.not_eq_true', decide_eq_true_eq, decide_eq_false_iff_not, List.all_eq_true] at h
  obtain ⟨⟨⟨⟨⟨⟨⟨⟨h1, h2⟩, h3⟩, h4⟩, h5⟩, h6⟩, h7⟩, h8⟩, h9⟩ := h
  refine ⟨h1, h2, h3, fun y hy => ⟨(h4 y hy).1.1, fun e => ((h4 y hy).1.2).elim (fun z => absurd e z) id⟩, fun y hy e => ?_, h5, h6, h7, h8, h9⟩
  rcases (h4 y hy).2 with (z | z) | z
  · exact absurd e z
  · exact .inl z
  · exact .inr z
theorem LamP.has {N : List Str} {X : Cx} {scope : Scope} {ps : List Str} {js : List Nat} (L : LamP N X.env.scope scope ps js) (ok : X.Ok) : ∀ y ∈ scope.names, y.2 = .free → ∃ c, X.env.cells.lookup y.1 = some c := fun y hy e => by
  rcases L.free y hy e with k | k
  · exact ok.has _ (.inl k)
  · exact ok.has _ (.inr k)
/-- the parameters' slots are set -/
def setL {α : Type} : List (Option α) → List Nat → List α → List (Option α)
  | σ, j :: js, v :: vs => setL (σ.set j (some v)) js vs
  | σ, _, _ => σ
theorem setL_len {α : Type} : ∀ {js : List Nat} {vs : List α} {σ : List (Option α)}, (setL σ js vs).length = σ.length
  | [], _, _ => by simp [setL]
  | _ :: _, [], _ => by simp [setL]
  | j :: js, v :: vs, σ => by rw [setL, setL_len, List.length_set]
theorem setL_ne {α : Type} {i : Nat} : ∀ {js : List Nat} {vs : List α} {σ : List (Option α)}, i ∉ js → (setL σ js vs)[i]? = σ[i]?
  | [], _, _, _ => by simp [setL]
  | _ :: _, [], _, _ => by simp [setL]
  | j :: js, v :: vs, σ, h => by
    rw [setL, setL_ne (fun z => h (List.mem_cons_of_mem _ z)), List.getElem?_set_ne (fun e => h (by rw [e]; exact List.mem_cons_self))]
theorem setL_at {α : Type} {j : Nat} {v : α} : ∀ {js : List Nat} {vs : List α} {σ : List (Option α)} {k : Nat}, js.Nodup → js[k]? = some j → vs[k]? = some v → j < σ.length → (setL σ js vs)[j]? = some (some v)
  | [], _, _, _, _, h, _, _ => by simp at h
  | _ :: _, [], _, _, _, _, h, _ => by simp at h
  | j0 :: js, v0 :: vs, σ, 0, nd, h1, h2, hj => by
    simp at h1 h2
    subst h1 h2
    rw [setL, setL_ne (List.nodup_cons.mp nd).1, List.getElem?_set_self hj]
  | j0 :: js, v0 :: vs, σ, k + 1, nd, h1, h2, hj => by
    rw [setL]
    exact setL_at (k := k) (List.nodup_cons.mp nd).2 (by simpa using h1) (by simpa using h2) (by rw [List.length_set]; exact hj)
theorem EnvOk.setL {T : Kt} {ws : Ws} {H : Hp} : ∀ {js : List Nat} {ds : List D} {vs : List V} {σ : L2.St} {ρ : Rho}, EnvOk T none ws H σ ρ → Reps T ws (mask ws H) ds vs → EnvOk T none ws H (setL σ js vs) (setL ρ js ds)
  | [], _, _, _, _, N, _ => by simpa [VM.setL] using N
  | _ :: _, [], _, _, _, N, h => by
    cases h
    simpa [VM.setL] using N
  | j :: js, d :: ds, _, σ, ρ, N, ⟨v, r, hv, h1, h2⟩ => by
    subst hv
    rw [VM.setL, VM.setL]
    exact EnvOk.setL (N.set h1 True.intro) h2
/-- what the lambda captures -/
def captD (ρ : Rho) : List D := ρ.map fun o => o.getD .non
def captV : Rho → L2.St → List V
  | d :: ρ, v :: σ => (match d with | none => .non | some _ => v.getD .non) :: captV ρ σ
  | _, _ => []
theorem captV_get : ∀ {ρ : Rho} {σ : L2.St} {i : Nat} {d : D} {v : V}, ρ[i]? = some (some d) → σ[i]? = some (some v) → (captV ρ σ)[i]? = some v
  | [], _, _, _, _, h, _ => by simp at h
  | _ :: _, [], _, _, _, _, h => by simp at h
  | d :: ρ, v :: σ, 0, _, _, h1, h2 => by
    simp at h1 h2
    subst h1 h2
    rfl
  | d :: ρ, v :: σ, i + 1, _, _, h1, h2 => by
    have := captV_get (ρ := ρ) (σ := σ) (i := i) (by simpa using h1) (by simpa using h2)
    show ((_ :: captV ρ σ)[i + 1]?) = _
    rw [List.getElem?_cons_succ]
    exact this
theorem reps_captA {T : Kt} {ws : Ws} {M : Hp} : ∀ {ρ : Rho} {σ : L2.St}, σ.length = ρ.length → (∀ (i : Nat) (d : D), ρ[i]? = some (some d) → ∃ v, σ[i]? = some (some v) ∧ Rep T ws M d v) → Reps T ws M (captD ρ) (captV ρ σ)
  | [], [], _, _ => rfl
  | [], _ :: _, h, _ => by simp at h
  | _ :: _, [], h, _ => by simp at h
  | d :: ρ, v :: σ, h, g => by
    refine ⟨_, _, rfl, ?_, reps_captA (by simpa using h) fun i d e => g (i + 1) d (by simpa using e)⟩
    cases d with
    | none => rfl
    | some d =>
      obtain ⟨u, e, r⟩ := g 0 d rfl
      simp at e
      subst e
      exact r
theorem reps_capt {T : Kt} {x : Option Sx} {ws : Ws} {H : Hp} {σ : L2.St} {ρ : Rho} (N : EnvOk T x ws H σ ρ) : Reps T ws (mask ws H) (captD ρ) (captV ρ σ) := reps_captA N.len N.at_
theorem env_capt {T : Kt} {x : Option Sx} {ws0 ws : Ws} {H0 H : Hp} {σ : L2.St} {ρ : Rho} (N : EnvOk T x ws0 H0 σ ρ) (h : Reps T ws (mask ws H) (captD ρ) (captV ρ σ)) : EnvOk T none ws H σ ρ :=
  ⟨N.len, fun i d e => by
    obtain ⟨v, h1, _⟩ := N.at_ i d e
    obtain ⟨v', h2, r⟩ := h.get (i := i) (d := d) (by unfold captD; rw [List.getElem?_map, e]; rfl)
    rw [captV_get e h1] at h2
    cases h2
    exact ⟨v, h1, r⟩, fun q z => nomatch z⟩

/-! ### the lambda is called -/
structure LamRun (Z : Cx) (T : Kt) (f c : Addr) (q : Str) (us0 : List V) (ds0 : List D) (np : Nat) (L : FM) : Prop where
  at_ : ∀ (pn : List (Addr × Obj)) (xe : Value → Shared → Prop) (pins : List (Addr × Obj)) (σ : L2.St) (H : Hp) (s : Shared), Inv (Z.tr pn xe) pins σ H s → PySem.W.FnAt f s.heap
  run : ∀ (pn : List (Addr × Obj)) (xe : Value → Shared → Prop) (pins : List (Addr × Obj)) (σ : L2.St) (H : Hp) (s : Shared) (us : List Value) (vs : List V) (ds : List D) (ws : Ws) (st : Sto) (r : Res D) (Q : VK) (E : XK),
    Inv (Z.tr pn xe) pins σ H s → Sta T ws H st → Rep T ws (mask ws H) (.lam f c q us0 ds0) (.ref f) → Vals vs us → Reps T ws (mask ws H) ds vs → ds.length = np → L st ds = some r → XE' T ws H E r →
    (∀ d s', r = .ok d s' → ∀ v ws' H', Stp ws H ws' H' → Sta T ws' H' s' → Rep T ws' (mask ws' H') d v → Q v H') →
    codeAny (model Z.prog Z.w) Z.A (.call (.ref f) ⟨us, []⟩) (CR (L2.CX Z.prog Z.w) Z.stack Z.prog Z.w H s Q E) s
section
variable {X : Cx} {pins : List (Addr × Obj)} {σ : L2.St} {H HZ : Hp} {s s1 : Shared}
theorem zip_rev {ps : List Str} {us : List Value} {y : Str} {u : Value} {k : Nat} (nd : ps.Nodup) (h1 : ps[k]? = some y) (h2 : us[k]? = some u) : (ps.zip us).reverse.lookup y = some u := by
  have hm : (y, u) ∈ (ps.zip us).reverse := by
    rw [List.mem_reverse]
    refine List.mem_of_getElem? (i := k) ?_
    rw [List.getElem?_zip_eq_some]
    exact ⟨h1, h2⟩
  obtain ⟨w, hw⟩ : ∃ w, (ps.zip us).reverse.lookup y = some w := L2.mem_lookup hm
  have hm2 := PySem.mem_of_lookup hw
  rw [List.mem_reverse] at hm2
  obtain ⟨i, hi⟩ := List.getElem?_of_mem hm2
  rw [List.getElem?_zip_eq_some] at hi
  have : i = k := nd_ix nd hi.1 h1
  subst this
  rw [h2] at hi
  cases hi.2
  exact hw
theorem lam_start3 {A : Around} {outer : List Env} {E : XK} {scope : Scope} {ps : List Str} {js : List Nat} {f c' : Addr} {h₁ : Heap} {tk : Nat} {us : List Value} {vs : List V} (I : Inv X pins σ H s) (L : LamP X.N X.env.scope scope ps js) (e0 : Env0 X.prog X.w X.K X.mg X.base A outer s1 HZ) (hd : A.handled = none)
    (un : Un (frs X.stack) [] H HZ s.heap s1.heap) (hns : h₁.Ns s1.heap.objs.size fun y => (ps.zip us).reverse.lookup y) (kp : ∀ b o, s1.heap.get? b = some o → h₁.get? b = some o) (rv : Vals vs us) (hl : vs.length = ps.length) :
    Inv (lamCx X A outer s1 HZ E scope f c') [] (setL σ js vs) HZ { s1 with heap := h₁, toks := tk } := by
  have hfree := L.has I.ok
  have cm : ∀ {y c}, (cloFrom X.env.cells scope.names []).lookup y = some c → X.env.cells.lookup y = some c := fun {y c} e => by
    rcases cloFrom_mem (PySem.mem_of_lookup e) with hm | ⟨h1, h2⟩
    · cases hm
    · obtain ⟨c1, hc⟩ := hfree _ h1 rfl
      have hc : X.env.cells.lookup y = some c1 := hc
      have e2 : c = c1 := by
        rw [h2, hc] <;> rfl
      rw [e2]
      exact hc
  have look : ∀ {y}, scope.names.lookup y = some .free → ∃ c, (cloFrom X.env.cells scope.names []).lookup y = some c := fun {y} hl => by
    have hy : (y, NameKind.free) ∈ scope.names := PySem.mem_of_lookup hl
    exact mem_lookup (cloFrom_has (cells := X.env.cells) (acc := []) hy)
  have cellK : ∀ {c : Addr} {v : Option Value}, H c = none → s.heap.IsCell c v → h₁.IsCell c v := fun {c v} n ⟨o, ho, hd⟩ => by
    obtain ⟨sl, q⟩ := un.any ho n (by simp)
    exact ⟨_, kp _ _ q, hd⟩
  have noA : ∀ b : Addr, b ∉ (lamCx X A outer s1 HZ E scope f c').ex := fun b z => absurd (show b ∈ ([] : List Addr) from z) (by simp)
  have slotAt : ∀ {i : Nat} {y : Str}, X.N[i]? = some y → y ∈ ps → ∃ k, ps[k]? = some y ∧ js[k]? = some i := fun {i y} e hy => by
    obtain ⟨k, hk⟩ := List.getElem?_of_mem hy
    have e1 : (js.map (fun j => X.N[j]?))[k]? = some (some y) := by
      rw [L.slot, List.getElem?_map, hk]
      rfl
    rw [List.getElem?_map, Option.map_eq_some_iff] at e1
    obtain ⟨j, h1, h2⟩ := e1
    exact ⟨k, hk, by rw [h1, nd_ix L.nd h2 e]⟩
  refine ⟨⟨e0.mod, L.kind, rfl, rfl, Nat.le_refl _, fun y z c e1 e2 => I.ok.inj y z c (cm e1) (cm e2), fun y hy => ?_, fun y c z _ => ?_, fun _ => hd, Around.frames_deeper e0.frames, .inr ⟨rfl, rfl⟩, fun b z => absurd z (noA b), e0.bs, e0.bsz, fun b _ _ => noA b,
      fun b z => absurd z (noA b), e0.funs, e0.frf⟩,
    rfl, e0.bare, Un.kept kp, ⟨_, hns, fun i y v e1 e2 e3 => ?_⟩, fun y c e => ?_, e0.hok.fresh (Nat.le_refl _), fun y c e => ?_, fun q hq => absurd (show q ∈ ([] : List (Addr × Obj)) ++ [] from hq) (by simp), e0.hok.kept kp, by rw [setL_len]; exact I.len⟩
  · have hy : scope.names.lookup y = some .cell ∨ scope.names.lookup y = some .free := hy
    rcases hy with hy | hy
    · exact absurd rfl (L.own _ (PySem.mem_of_lookup hy)).1
    · exact look hy
  · have z : false = true := z
    cases z
  · have e3 : Vis scope y := e3
    have e1 : X.N[i]? = some y := e1
    rcases e3 with k | k | k
    · have hy : y ∈ ps := (L.own _ (PySem.mem_of_lookup k)).2 rfl
      obtain ⟨n, h1, h2⟩ := slotAt e1 hy
      have hn : n < vs.length := by
        rw [hl]
        exact (List.getElem?_eq_some_iff.mp h1).1
      have hv : vs[n]? = some vs[n] := List.getElem?_eq_getElem hn
      have hi : i < σ.length := by
        rw [I.len]
        exact (List.getElem?_eq_some_iff.mp e1).1
      rw [setL_at L.jd h2 hv hi] at e2
      cases e2
      obtain ⟨u, hu, r⟩ := rv.get hv
      exact ⟨u, r, .inl ⟨k, zip_rev L.pd h1 hu⟩⟩
    · exact absurd rfl (L.own _ (PySem.mem_of_lookup k)).1
    · have hni : i ∉ js := fun z => by
        have hz : X.N[i]? ∈ ps.map some := by
          rw [← L.slot]
          exact List.mem_map.mpr ⟨i, z, rfl⟩
        rw [e1] at hz
        obtain ⟨y', h1, h2⟩ := List.mem_map.mp hz
        cases h2
        have := L.par _ h1
        rw [k] at this
        cases this
      rw [setL_ne hni] at e2
      obtain ⟨m, hn, hl⟩ := I.loc
      have hvis : Vis X.env.scope y := (L.free _ (PySem.mem_of_lookup k) rfl).elim (fun k => .inr (.inl k)) (fun k => .inr (.inr k))
      obtain ⟨w', r, q⟩ := hl i y v e1 e2 hvis
      obtain ⟨c2, h2⟩ := look k
      refine ⟨w', r, .inr ⟨.inr k, c2, h2, ?_⟩⟩
      have c1 := cm h2
      rcases q with ⟨k', _⟩ | ⟨_, c3, e', z⟩
      · have k' : X.env.scope.names.lookup y = some .local := k'
        rcases L.free _ (PySem.mem_of_lookup k) rfl with k2 | k2 <;> rw [show X.env.scope.names.lookup y = _ from k2] at k' <;> cases k'
      · rw [c1] at e'
        cases e'
        exact cellK (I.freeC y _ c1) z
  · obtain ⟨w', z⟩ := I.cell y c (cm e)
    exact ⟨w', cellK (I.freeC y c (cm e)) z⟩
  · obtain ⟨v, o, ho, hd⟩ := I.cell y c (cm e)
    exact un.free c o ho (I.freeC y c (cm e)) (by simp)
end
end
end VM
set_option Elab.async false
set_option maxRecDepth 100000
set_option maxHeartbeats 4000000
set_option linter.all false
set_option autoImplicit false
/-! Lambdas handed to a def: the three rules. -/
namespace VM
open PySem PySem.Spec PyProof.Rows L2 LamX
noncomputable section
/-- the lambda that was just made can be called from the def that gets it -/
theorem lam_run {X : Cx} {pins : List (Addr × Obj)} {σ : L2.St} {ρ : Rho} {H : Hp} {s : Shared} {T : Kt} {x0 : Option Sx} {ws0 : Ws} {CXg : CXT} {Eg : XK} {Ng : List Str} {qg : Str} {sg : Scope} {g f c' : Addr} {cdg pm ctv : Value} {params : Arguments} {body : Expr} {scope : Scope} {k : Nat} {ps : List Str} {js : List Nat} {fb : M D}
    (I : Inv X pins σ H s) (L : LamP X.N X.env.scope scope ps js) (hf : s.heap.get? f = some (PySem.W.kla_obj "<lambda>" (X.env.qual ++ "<lambda>") params body scope (cloFrom X.env.cells scope.names []) pm c' ctv)) (hfn : H f = none) (hfr : f ∉ frs X.stack)
    (N0 : EnvOk T x0 ws0 H σ ρ)
    (hbind : ∀ us : List Value, us.length = ps.length → bindArgs (PySem.W.kla_fn "<lambda>" (X.env.qual ++ "<lambda>") params body scope (cloFrom X.env.cells scope.names []) pm (.ref c') ctv) ⟨us, []⟩ = pure (ps.zip us))
    (hr : Room (k + 1) (X.A.deeper (envOfC qg sg s.heap.objs.size g cdg)))
    (hbody : ∀ (A : Around) (outer : List Env) (s : Shared) (H : Hp) (E : XK), Room k (A.deeper (lamEnv X scope s.heap.objs.size f c')) → Takes (lamCx X A outer s H E scope f c') (WD E) →
      PassesOwn (model X.prog X.w) (lamCx X A outer s H E scope f c').A (lamCx X A outer s H E scope f c').env (lamCx X A outer s H E scope f c').xe → DE (lamCx X A outer s H E scope f c') ⟨T, WD E, none⟩ body fb) :
    LamRun (cxOf CXg X.prog X.w X.K X.mg X.base Ng qg sg g cdg X.A X.stack s H Eg) T f c' (X.env.qual ++ "<lambda>") (captV ρ σ) (captD ρ) ps.length (fun st ds => fb (setL ρ js ds) st) := by
  have of1 : ∀ {pn xe pinsZ σZ HZ s1}, Inv ((cxOf CXg X.prog X.w X.K X.mg X.base Ng qg sg g cdg X.A X.stack s H Eg).tr pn xe) pinsZ σZ HZ s1 → s1.heap.get? f = some (PySem.W.kla_obj "<lambda>" (X.env.qual ++ "<lambda>") params body scope (cloFrom X.env.cells scope.names []) pm c' ctv) :=
    fun {pn xe pinsZ σZ HZ s1} I1 => I1.base.keep f _ hf hfn hfr (fun z => nomatch (show f ∈ ([] : List Addr) from z))
  refine ⟨fun pn xe pinsZ σZ HZ s1 I1 => ⟨_, _, _, _, of1 I1⟩, fun pn xe pinsZ σZ HZ s1 us vs ds ws st r Q E I1 S rl rv rd hn hv hx hq => ?_⟩
  obtain ⟨_, hc, hcap⟩ := rl
  have un : Un (frs X.stack) [] H HZ s.heap s1.heap := I1.base
  obtain ⟨⟨oc, vs', t, hoc, hdc, hvc⟩, _, _⟩ := I1.hok c' _ (mask_some hc).2
  have hlv : vs.length = ps.length := by rw [← rd.length, hn]
  have hlu : us.length = ps.length := by rw [← rv.length, hlv]
  refine PySem.W.kla_callFunE hr.depth (of1 I1) rfl L.co L.gen rfl ⟨c', oc, vs', t, rfl, hoc, hdc, hvc⟩ ?_
  rw [hbind us hlu]
  refine wpAny_pure (wpAny_newFunctionEnv (fun y hy => (L.own y hy).1) (fun y hy => L.par _ (List.of_mem_zip hy).1) (fun h₁ hns hsb => ⟨I1.nolimit.fresh _ hsb, ?_⟩) L.kind)
  show codeAny _ _ (.expr body (lamEnv X scope s1.heap.objs.size f c')) _ _
  have kp : ∀ b o, s1.heap.get? b = some o → h₁.get? b = some o := fun b o e => hsb.extBut b o (Nat.ne_of_lt (Heap.lt_size e)) (Heap.get?_push_of_some _ e)
  have J : Inv (lamCx X (X.A.deeper (envOfC qg sg s.heap.objs.size g cdg)) (envOfC qg sg s.heap.objs.size g cdg :: X.stack) s1 HZ E scope f c') [] (setL σ js vs) HZ { s1 with heap := h₁, toks := s1.toks + (ps.zip us).length } :=
    lam_start3 I L I1.env0 hr.hd un hns kp rv hlv
  obtain ⟨te, pe, ev⟩ := (hbody (X.A.deeper (envOfC qg sg s.heap.objs.size g cdg)) (envOfC qg sg s.heap.objs.size g cdg :: X.stack) s1 HZ E (hr.deeper _) (takes_of rfl rfl rfl rfl) (passes_of rfl)).ex
  refine PySem.W.kla_codeExpr (wpAny_mono (pe.run [] _ _ HZ Q J (ev ws HZ st _ (setL ρ js ds) r Q S ((env_capt N0 hcap).setL rd) hv ?_ hq)) (fun v s' hq => ?_) fun e s' hq => hq)
  · cases r with
    | ok x s => exact True.intro
    | ex e s => exact hx
  · obtain ⟨w', H', J', rv, q⟩ := hq
    exact ⟨w', H', J'.os, J'.bare, J'.base, J'.hok, rv, q⟩

/-! ### a(e, ..) in the def that got the lambda -/
def fLam (i : Nat) (d : D) (n : Nat) (L : FM) (fa : M (List D)) : M D := fun ρ s => match ρ[i]? with
  | some (some d') => if sameD d' d = true then bnd fa (fun xs => fun _ s => if xs.length = n then L s xs else none) ρ s else none
  | _ => none
def spL (T : Kt) (d : D) (u : V) (n : Nat) (L : FM) (Q : VK) (E : XK) : List V → Hp → Prop := fun vs H => ∃ ws st ds r, Sta T ws H st ∧ Rep T ws (mask ws H) d u ∧ Reps T ws (mask ws H) ds vs ∧ ds.length = n ∧ L st ds = some r ∧ XE' T ws H E r ∧
  ∀ d s', r = .ok d s' → ∀ v ws' H', Stp ws H ws' H' → Sta T ws' H' s' → Rep T ws' (mask ws' H') d v → Q v H'
section
variable {X : Cx} {C : Cn} {pos p : Pos} {f c : Addr} {q a : Str} {us0 : List V} {ds0 : List D} {n i : Nat} {L : FM}
theorem lam_call {pins : List (Addr × Obj)} {σ : L2.St} {H : Hp} {s : Shared} {us : List Value} {vs : List V} {Q : VK} (tk : Takes X C.W) (hL : LamRun X C.T f c q us0 ds0 n L) (I : Inv X pins σ H s) (rv : Vals vs us) (h : spL C.T (.lam f c q us0 ds0) (.ref f) n L Q (WE C.W σ) vs H) :
    wpAny (model X.prog X.w) X.A (call (.ref f) us) (EP X pins σ Q) X.xe s := by
  obtain ⟨ws, st, ds, r, S, rl, rd, hn, hv, hx, q⟩ := h
  refine wpAny_call (codeAny_mono (hL.run X.pn X.xe pins σ H s us vs ds ws st r Q (WE C.W σ) I S rl rv rd hn hv hx q) fun r s' hq => ?_)
  cases r with
  | error e => exact passAt tk σ pins H s e s' I hq
  | ok fl =>
    cases fl with
    | ret u => exact I.after hq
    | next => exact False.elim hq
    | brk => exact False.elim hq
    | cont => exact False.elim hq
theorem ev_lam {ta : TA} {fa : M (List D)} (ea : EvA C ta fa) : EvS C (fun σ H Q => σ[i]? = some (some (.ref f)) ∧ ta σ H (spL C.T (.lam f c q us0 ds0) (.ref f) n L Q (WE C.W σ))) (fLam i (.lam f c q us0 ds0) n L fa) := fun ws H s σ ρ R Q S N h xx qq => by
  unfold fLam at h
  split at h
  · rename_i d' e
    split at h
    · rename_i e2
      have e3 := sameD_ok _ _ e2
      subst e3
      obtain ⟨v, h1, r1⟩ := N.at_ i _ e
      have ev : v = .ref f := r1.1
      subst ev
      refine ⟨h1, (ea.b) S N h xx fun xs s1 h vs ws1 H1 t1 S1 r2 => ?_⟩
      split at h
      · rename_i hn
        exact ⟨ws1, s1, xs, R, S1, r1.stp t1, r2, hn, h, xe_of (xx.stp t1), fun d s' e v ws2 H2 t2 S2 r2 => qq d s' e v ws2 H2 (t1.trans t2) S2 r2⟩
      · cases h
    · cases h
  · cases h
theorem de_lam {e : Expr} {es : List Expr} {fa : M (List D)} (i : Nat) (tk : Takes X C.W) (hL : LamRun X C.T f c q us0 ds0 n L) (ha : DA X C (e :: es) fa) (hN : X.N[i]? = some a := by rfl) (hv : Vis X.env.scope a := by first | exact Or.inl rfl | exact Or.inr (Or.inl rfl) | exact Or.inr (Or.inr rfl))
    (hd : (a == ("__debug__" : Str)) = false := by decide) (hcd : (a == ("__classdict__" : Str)) = false := by decide)
    (he : starEach (e :: es) X.env = (false, eval e X.env) :: starEach es X.env := by rfl) (hpl : (backTo pos (starEach es X.env)).any (·.1) = false := by rfl) : DE X C (.Call (.Name a p) (e :: es) [] pos) (fLam i (.lam f c q us0 ds0) n L fa) :=
  let ⟨_, pa, ea⟩ := ha.ex
  ⟨_, ⟨fun pins s σ H Q I h => by
    obtain ⟨hs, ht⟩ := h
    refine wpAny_Call_Name_kw (thn ((pe_var (pos := p) (i := i) hN hv hd hcd).run pins s σ H (fun v H1 => v = .ref f ∧ H1 = H) I ⟨.ref f, hs, rfl, rfl⟩) fun u s1 ⟨v, H1, I1, r1, q1⟩ => ?_)
    obtain ⟨ev, eH⟩ := q1
    subst ev
    rw [eH] at I1
    obtain rfl : u = Value.ref f := r1
    refine PySem.W.callWith_F (first := []) (hL.at_ X.pn X.xe _ _ _ _ I1) (thn (pa.run pos pins s1 σ H _ I1 ht) fun us s2 ⟨vs, H2, I2, r, q⟩ => ⟨hL.at_ X.pn X.xe _ _ _ _ I2, ?_⟩) he hpl
    exact lam_call tk hL I2 r q⟩, ev_lam ea⟩
theorem de_lam0 (i : Nat) (tk : Takes X C.W) (hL : LamRun X C.T f c q us0 ds0 n L) (hN : X.N[i]? = some a := by rfl) (hv : Vis X.env.scope a := by first | exact Or.inl rfl | exact Or.inr (Or.inl rfl) | exact Or.inr (Or.inr rfl))
    (hd : (a == ("__debug__" : Str)) = false := by decide) (hcd : (a == ("__classdict__" : Str)) = false := by decide) : DE X C (.Call (.Name a p) [] [] pos) (fLam i (.lam f c q us0 ds0) n L (ret [])) :=
  ⟨_, ⟨fun pins s σ H Q I h => by
    obtain ⟨hs, ht⟩ := h
    refine wpAny_Call_Name_kw (thn ((pe_var (pos := p) (i := i) hN hv hd hcd).run pins s σ H (fun v H1 => v = .ref f ∧ H1 = H) I ⟨.ref f, hs, rfl, rfl⟩) fun u s1 ⟨v, H1, I1, r1, q1⟩ => ?_)
    obtain ⟨ev, eH⟩ := q1
    subst ev
    rw [eH] at I1
    obtain rfl : u = Value.ref f := r1
    refine PySem.W.callWith_F0 (first := []) (hL.at_ X.pn X.xe _ _ _ _ I1) ?_
    exact lam_call tk hL I1 .nil ht⟩, ev_lam (ta := tNil) fun ws H s σ ρ R Q S N h xx q => by
      cases h
      exact q _ _ rfl [] ws H (Stp.refl _ _) S rfl⟩
end

/-! ### f(e, .., lambda ..: ..) -/
/-- the same result wherever the lambda lies -/
def allF {α : Type} (F : Addr → Addr → Str → List V → Option α) : Option α := open Classical in if h : ∃ r, ∀ a c q us, F a c q us = some r then some h.choose else none
theorem allF_some {α : Type} {F : Addr → Addr → Str → List V → Option α} {r : α} (h : allF F = some r) : ∀ a c q us, F a c q us = some r := by
  unfold allF at h
  split at h
  · rename_i hh
    cases h
    exact hh.choose_spec
  · cases h
theorem allF_eq {α : Type} {F : Addr → Addr → Str → List V → Option α} {r : α} (h : ∀ a c q us, F a c q us = some r) : allF F = some r := by
  have hh : ∃ r, ∀ a c q us, F a c q us = some r := ⟨r, h⟩
  unfold allF
  rw [dif_pos hh]
  have := hh.choose_spec 0 0 "" []
  rw [h 0 0 "" []] at this
  exact this.symm
abbrev LM := D → FM → FM
def Lof (js : List Nat) (fb : M D) (ρ : Rho) : FM := fun st ds => fb (setL ρ js ds) st
/-- a def that gets a lambda of np parameters -/
structure FnL (P : Program) (w : World) (K : PySem.W.Frag) (T : Kt) (mg : Str → Option Value) (base : Heap) (k : Nat) (g : Addr) (x qual : Str) (st : Stmt) (fd : FuncData) (N ps : List Str) (np : Nat) (m : LM) : Prop where
  F : Fun K x qual st g fd
  S : FnScope N ps (defScope st)
  body : ∃ (kp : Bool) (G : D → FM → MS), (∀ d L s ds r, m d L s ds = some r → run kp N.length (G d L) s ds = some r) ∧ ∀ (cdv : Value) (A : Around) (outer : List Env) (s : Shared) (H : Hp) (E : XK) (f c : Addr) (q : Str) (us0 : List V) (ds0 : List D) (L : FM), Room k (A.deeper (envOfC qual (defScope st) s.heap.objs.size g cdv)) →
      Takes (cxOf (L2.CX P w) P w K mg base N qual (defScope st) g cdv A outer s H E) (WD E) → PassesOwn (model P w) (cxOf (L2.CX P w) P w K mg base N qual (defScope st) g cdv A outer s H E).A (cxOf (L2.CX P w) P w K mg base N qual (defScope st) g cdv A outer s H E).env (cxOf (L2.CX P w) P w K mg base N qual (defScope st) g cdv A outer s H E).xe →
      LamRun (cxOf (L2.CX P w) P w K mg base N qual (defScope st) g cdv A outer s H E) T f c q us0 ds0 np L →
      DSs (cxOf (L2.CX P w) P w K mg base N qual (defScope st) g cdv A outer s H E) ⟨T, WD E, none⟩ (defBody st) (G (.lam f c q us0 ds0) L)
section
variable {T : Kt} {ws : Ws} {H H1 : Hp} {s : Sto}
theorem Sta.stp_ext (S : Sta T ws H s) (e : ExtN H H1) : Stp ws H ws H1 :=
  ⟨List.prefix_refl _, fun _ z => z, fun a o h => (by
    have nt := mask_nt h
    obtain ⟨n, h⟩ := mask_some h
    refine mask_in n (e a o h fun ps z => ?_) nt
    subst z
    cases nt), fun a z => (by
    obtain ⟨o, h1, h2⟩ := S.hid a z
    rw [h1]
    exact e a o h1 fun ps q => by subst q; exact h2)⟩
theorem Sta.ext (S : Sta T ws H s) (e : ExtN H H1) (tb : Tabs T.tabs H1) : Sta T ws H1 s :=
  ⟨S.nd, S.len, S.dis, fun a z => (by
    obtain ⟨o, h1, h2⟩ := S.hid a z
    exact ⟨o, e a o h1 (fun ps q => by subst q; exact h2), h2⟩), fun l a so e1 e2 => (by
    obtain ⟨o, h1, h2⟩ := S.own l a so e1 e2
    exact ⟨o, e a o h1 (fun ps q => by subst q; exact h2.elim), h2.stp (S.stp_ext e)⟩), tb⟩
theorem Sta.code (S : Sta T ws H s) {c : Addr} {q : Str} (h : H c = some (CodeO c q)) : mask ws H c = some (CodeO c q) := by
  refine mask_in ⟨fun z => ?_, fun z => ?_⟩ h rfl
  · obtain ⟨l, hl, e0⟩ := List.getElem_of_mem z
    have e : ws.own[l]? = some c := by rw [List.getElem?_eq_getElem hl, e0]
    have h2 : l < s.length := by rw [← S.len]; exact hl
    obtain ⟨o, h3, h4⟩ := S.own l c s[l] e (List.getElem?_eq_getElem h2)
    rw [h] at h3
    cases h3
    unfold CodeO at h4
    exact h4.elim
  · obtain ⟨o, h3, h4⟩ := S.hid c z
    rw [h] at h3
    cases h3
    unfold CodeO at h4
    exact h4
end
end
end VM
set_option Elab.async false
set_option maxRecDepth 100000
set_option maxHeartbeats 4000000
set_option linter.all false
set_option autoImplicit false
/-! f(e, .., lambda ..: ..): the caller's rule. -/
namespace VM
open PySem PySem.Spec PyProof.Rows L2 LamX
noncomputable section
/-- what a lambda asks of the place where it stands -/
structure LamAt (X : Cx) (T : Kt) (params : Arguments) (body : Expr) (scope : Scope) (ps : List Str) (js : List Nat) (c P : Addr) (k : Nat) (fb : M D) : Prop where
  TB : TabB X.base X.mg c P
  code : X.env.code = .ref c
  mem : (P, X.env.qual ++ "<lambda>") ∈ T.tabs
  uni : ∀ p ∈ T.tabs, p.1 = P → p.2 = X.env.qual ++ "<lambda>"
  L : LamP X.N X.env.scope scope ps js
  dflt : defaultsOf params X.env = ([], [])
  bind : ∀ (us : List Value) (q : Str) (cl : List (Str × Addr)) (pm cv ctv : Value), us.length = ps.length → bindArgs (PySem.W.kla_fn "<lambda>" q params body scope cl pm cv ctv) ⟨us, []⟩ = pure (ps.zip us)
  body : ∀ (A : Around) (outer : List Env) (s : Shared) (H : Hp) (E : XK) (f c' : Addr), Room k (A.deeper (lamEnv X scope s.heap.objs.size f c')) → Takes (lamCx X A outer s H E scope f c') (WD E) →
      PassesOwn (model X.prog X.w) (lamCx X A outer s H E scope f c').A (lamCx X A outer s H E scope f c').env (lamCx X A outer s H E scope f c').xe → DE (lamCx X A outer s H E scope f c') ⟨T, WD E, none⟩ body fb
def FinL (C : Cn) (m : LM) (js : List Nat) (fb : M D) (n : Nat) (σ : L2.St) (H : Hp) (Q : VK) (vs : List V) : Prop := ∃ ws st ρ xs R, Sta C.T ws H st ∧ EnvOk C.T C.x ws H σ ρ ∧ Reps C.T ws (mask ws H) xs vs ∧ xs.length + 1 = n ∧
  (∀ a c q us, m (.lam a c q us (captD ρ)) (Lof js fb ρ) st (xs ++ [.lam a c q us (captD ρ)]) = some R) ∧ XOk C ws H σ R ∧ ∀ d s', R = .ok d s' → ∀ v ws' H', Stp ws H ws' H' → Sta C.T ws' H' s' → Rep C.T ws' (mask ws' H') d v → Q v H'
section
variable {X : Cx} {C : Cn} {g c P : Addr} {x qual : Str} {st : Stmt} {fd : FuncData} {Ng psg : List Str} {np kg k K : Nat} {m : LM} {params : Arguments} {body : Expr} {scope : Scope} {ps : List Str} {js : List Nat} {fb : M D}
theorem lam_fin (FL : FnL X.prog X.w X.K C.T X.mg X.base kg g x qual st fd Ng psg np m) (La : LamAt X C.T params body scope ps js c P k fb) (hnp : ps.length = np) (hr : Room (K + 1) X.A) (k1 : kg ≤ K) (k2 : k + 1 ≤ K) (tk : Takes X C.W) (hb : Binds X.K fd psg [])
    {pins : List (Addr × Obj)} {σ : L2.St} {H H3 : Hp} {s3 : Shared} {us : List Value} {vs : List V} {Q : VK} {f c' : Addr} {pm' ctv : Value} (h : FinL C m js fb psg.length σ H Q vs) (I3 : Inv X pins σ H3 s3) (rv : Vals vs us) (eN : ExtN H H3) (T3 : Tabs C.T.tabs H3)
    (hf : s3.heap.get? f = some (PySem.W.kla_obj "<lambda>" (X.env.qual ++ "<lambda>") params body scope (cloFrom X.env.cells scope.names []) pm' c' ctv)) (hfn : H3 f = none) (hfr : f ∉ frs X.stack) (hco : H3 c' = some (CodeO c' (X.env.qual ++ "<lambda>"))) :
    wpAny (model X.prog X.w) X.A (call (.ref g) (us ++ [.ref f])) (EP X pins σ Q) X.xe s3 := by
  obtain ⟨ws, st0, ρ, xs, R, S, N, rx, hn, hv, hx, q⟩ := h
  have t : Stp ws H ws H3 := S.stp_ext eN
  have S3 : Sta C.T ws H3 st0 := S.ext eN T3
  have N3 := N.stp t
  have rl : Rep C.T ws (mask ws H3) (.lam f c' (X.env.qual ++ "<lambda>") (captV ρ σ) (captD ρ)) (.ref f) := ⟨rfl, S3.code hco, reps_capt N3⟩
  have rxs : Reps C.T ws (mask ws H3) (xs ++ [.lam f c' (X.env.qual ++ "<lambda>") (captV ρ σ) (captD ρ)]) (vs ++ [.ref f]) := (rx.stp t).append ⟨_, [], rfl, rl, rfl⟩
  obtain ⟨oc, od, kV, doc, pm, an, cdv, ct, osl, efd, lk, hcd⟩ := FL.F.ex
  subst efd
  have hlv : (vs ++ [V.ref f]).length = psg.length := by rw [← rxs.length, List.length_append]; exact hn
  have rv3 : Vals (vs ++ [V.ref f]) (us ++ [Value.ref f]) := rv.append (.cons rfl .nil)
  have hlu : (us ++ [Value.ref f]).length = psg.length := by rw [← rv3.length]; exact hlv
  have hb3 := hb s3 (us ++ [.ref f]) I3.kIn (by rw [List.append_nil]; exact hlu)
  rw [List.append_nil] at hb3
  obtain ⟨kp, G, hm, hG⟩ := FL.body
  have rc : codeAny (model X.prog X.w) X.A (.call (.ref g) ⟨us ++ [.ref f], []⟩) (CR (L2.CX X.prog X.w) X.stack X.prog X.w H3 s3 Q (WE C.W σ)) s3 := by
    refine run_ofS (CX := L2.CX X.prog X.w) (N := Ng) (ps := psg) (us := us ++ [.ref f]) (vs := vs ++ [.ref f]) (k := K) lk hcd FL.S hr I3.env0 hb3 rv3 hlv fun hr' => ?_
    obtain ⟨tb, pb, eb⟩ := (hG cdv X.A X.stack s3 H3 (WE C.W σ) f c' (X.env.qual ++ "<lambda>") (captV ρ σ) (captD ρ) (Lof js fb ρ) (hr'.mono k1) (takes_of rfl rfl rfl rfl) (passes_of rfl)
      (by rw [← hnp]; exact lam_run I3 La.L hf hfn hfr N3 (fun us hl => La.bind us _ _ _ _ _ hl) (hr'.mono k2) fun A outer s H E => La.body A outer s H E f c')).ex
    refine ⟨tb, pb, ?_⟩
    have h2 := hm _ _ _ _ _ (hv f c' (X.env.qual ++ "<lambda>") (captV ρ σ))
    have xe : XE' C.T ws H3 (WE C.W σ) R := xe_of (hx.stp t)
    unfold run at h2
    split at h2
    · rename_i d1 s1 h3
      refine eb ws H3 st0 _ _ _ _ S3 (env_start rxs) h3 fun v ws1 H1 t1 S1 r1 => ?_
      obtain ⟨d2, s2, rfl⟩ := fin_res h2
      obtain ⟨ws2, t2, S2, r2⟩ := fin_ok S3 t1 S1 r1 h2
      exact q _ _ rfl v ws2 H1 (t.trans t2) S2 r2
    · rename_i ρ1 s1 h3
      refine eb ws H3 st0 _ _ _ _ S3 (env_start rxs) h3 fun σ1 ws1 H1 t1 S1 N1 => ?_
      obtain ⟨d2, s2, rfl⟩ := fin_res h2
      obtain ⟨ws2, t2, S2, r2⟩ := fin_ok (d := .non) (v := .non) S3 t1 S1 rfl h2
      exact q _ _ rfl .non ws2 H1 (t.trans t2) S2 r2
    · rename_i e ρ1 s1 h3
      refine eb ws H3 st0 _ _ _ _ S3 (env_start rxs) h3 fun σ1 cls dx ws1 H1 t1 S1 N1 x1 => ?_
      obtain ⟨s2, ws2, rfl, t2, S2, x2⟩ := finX_ok S3 t1 S1 x1 h2
      exact xe cls dx ws2 H1 t2 S2 x2
    · cases h2
  refine wpAny_call (codeAny_mono rc fun r s' hq => ?_)
  cases r with
  | error e => exact passAt tk σ pins H3 s3 e s' I3 hq
  | ok fl =>
    cases fl with
    | ret u => exact I3.after hq
    | next => exact False.elim hq
    | brk => exact False.elim hq
    | cont => exact False.elim hq
def fLamC (m : LM) (js : List Nat) (fb : M D) (n : Nat) (fa : M (List D)) : M D := bnd fa fun xs ρ s => if xs.length + 1 = n then allF fun a c q us => m (.lam a c q us (captD ρ)) (Lof js fb ρ) s (xs ++ [.lam a c q us (captD ρ)]) else none
theorem ev_lamC {ta : TA} {fa : M (List D)} {n : Nat} (ea : EvA C ta fa) : EvS C (fun σ H Q => ta σ H fun vs H1 => FinL C m js fb n σ H1 Q vs) (fLamC m js fb n fa) := fun ws H s σ ρ R Q S N h xx qq => (ea.b) S N h xx fun xs s1 h vs ws1 H1 t1 S1 r1 => by
  split at h
  · rename_i hn
    exact ⟨ws1, s1, ρ, xs, R, S1, N.stp t1, r1, hn, allF_some h, xx.stp t1, fun d s' e v ws2 H2 t2 S2 r2 => qq d s' e v ws2 H2 (t1.trans t2) S2 r2⟩
  · cases h
theorem FinL.tab {n : Nat} {σ : L2.St} {H : Hp} {Q : VK} {vs : List V} (h : FinL C m js fb n σ H Q vs) : Tabs C.T.tabs H := by
  obtain ⟨ws, st0, ρ, xs, R, S, _⟩ := h
  exact S.tab
variable {a b : Expr} {f1 f2 : M D} {nm : Str} {p lpos pos : Pos}
theorem de_lamC0 (FL : FnL X.prog X.w X.K C.T X.mg X.base kg g x qual st fd Ng psg np m) (La : LamAt X C.T params body scope ps js c P k fb) (hnp : ps.length = np) (K : Nat) (hr : Room (K + 1) X.A) (k1 : kg ≤ K) (k2 : k + 1 ≤ K) (tk : Takes X C.W) (hb : Binds X.K fd psg []) (hm : X.mg nm = some (.ref g)) (hk : PySem.W.keepIn X.K (.ref g) = true)
    (hg : Gl X nm := by rfl) (hdb : (nm == ("__debug__" : Str)) = false := by decide) : DE X C (.Call (.Name nm p) [.Lambda params body scope lpos] [] pos) (fLamC m js fb psg.length (ret [])) :=
  ⟨_, ⟨fun pins s σ H Q I h => by
    refine wpAny_Call_Name_kw (ld_glob I hg hm ?_ hdb)
    refine PySem.W.callWith_K (h₀ := X.base) I.ok.mod.kin hk ?_ (by rfl) (by rfl)
    show wpAny _ _ (spliced ((false, eval (.Lambda params body scope lpos) X.env) :: backTo pos (starEach [] X.env))) _ _ s
    have h : FinL C m js fb psg.length σ H Q [] := h
    refine Calls.spliced_cons (lam_make2 I La.TB La.code La.mem La.uni h.tab La.dflt (La.L.has I.ok) fun f c' pm' ctv H1 s' I1 eN T1 hf hfn hfr hco => ?_)
    exact Calls.spliced_nil ⟨I1.kIn, lam_fin (us := []) FL La hnp hr k1 k2 tk hb h I1 .nil eN T1 hf hfn hfr hco⟩⟩, ev_lamC (ta := tNil) fun ws H s σ ρ R Q S N h xx q => by
      cases h
      exact q _ _ rfl [] ws H (Stp.refl _ _) S rfl⟩
theorem de_lamC1 (FL : FnL X.prog X.w X.K C.T X.mg X.base kg g x qual st fd Ng psg np m) (La : LamAt X C.T params body scope ps js c P k fb) (hnp : ps.length = np) (K : Nat) (hr : Room (K + 1) X.A) (k1 : kg ≤ K) (k2 : k + 1 ≤ K) (tk : Takes X C.W) (hb : Binds X.K fd psg []) (hm : X.mg nm = some (.ref g)) (hk : PySem.W.keepIn X.K (.ref g) = true)
    (ha : DE X C a f1) (hg : Gl X nm := by rfl) (hdb : (nm == ("__debug__" : Str)) = false := by decide)
    (he : starEach [a, .Lambda params body scope lpos] X.env = (false, eval a X.env) :: starEach [.Lambda params body scope lpos] X.env := by rfl) : DE X C (.Call (.Name nm p) [a, .Lambda params body scope lpos] [] pos) (fLamC m js fb psg.length (bnd f1 fun x => ret [x])) :=
  let ⟨ta, pa, ea⟩ := ha.ex
  ⟨_, ⟨fun pins s σ H Q I h => by
    refine wpAny_Call_Name_kw (ld_glob I hg hm ?_ hdb)
    refine PySem.W.callWith_K (h₀ := X.base) I.ok.mod.kin hk ?_ he (by rfl)
    rw [he]
    show wpAny _ _ (spliced ((false, eval a X.env) :: (false, eval (.Lambda params body scope lpos) X.env) :: backTo pos (starEach [] X.env))) _ _ s
    have h : ta σ H fun v1 H1 => FinL C m js fb psg.length σ H1 Q [v1] := h
    refine Calls.spliced_cons (thn (pa.run pins s σ H _ I h) fun u1 s1 ⟨v1, H1, I1, r1, h1⟩ => ?_)
    refine Calls.spliced_cons (lam_make2 I1 La.TB La.code La.mem La.uni h1.tab La.dflt (La.L.has I.ok) fun f c' pm' ctv H2 s' I2 eN T1 hf hfn hfr hco => ?_)
    exact Calls.spliced_nil ⟨I2.kIn, lam_fin (us := [u1]) FL La hnp hr k1 k2 tk hb h1 I2 (.cons r1 .nil) eN T1 hf hfn hfr hco⟩⟩, ev_lamC (ta := fun σ H Q => ta σ H fun v1 H1 => Q [v1] H1) fun ws H s σ ρ R Q S N h xx q => (ea.b) S N h xx fun x s1 h v ws1 H1 t1 S1 r1 => by
      cases h
      exact q _ _ rfl [v] ws1 H1 t1 S1 ⟨v, [], rfl, r1, rfl⟩⟩
theorem de_lamC2 (FL : FnL X.prog X.w X.K C.T X.mg X.base kg g x qual st fd Ng psg np m) (La : LamAt X C.T params body scope ps js c P k fb) (hnp : ps.length = np) (K : Nat) (hr : Room (K + 1) X.A) (k1 : kg ≤ K) (k2 : k + 1 ≤ K) (tk : Takes X C.W) (hb : Binds X.K fd psg []) (hm : X.mg nm = some (.ref g)) (hk : PySem.W.keepIn X.K (.ref g) = true)
    (ha : DE X C a f1) (hb' : DE X C b f2) (hg : Gl X nm := by rfl) (hdb : (nm == ("__debug__" : Str)) = false := by decide)
    (he : starEach [a, b, .Lambda params body scope lpos] X.env = (false, eval a X.env) :: starEach [b, .Lambda params body scope lpos] X.env := by rfl)
    (he2 : starEach [b, .Lambda params body scope lpos] X.env = (false, eval b X.env) :: starEach [.Lambda params body scope lpos] X.env := by rfl)
    (hpl : (backTo pos (starEach [b, .Lambda params body scope lpos] X.env)).any (·.1) = false := by rfl) : DE X C (.Call (.Name nm p) [a, b, .Lambda params body scope lpos] [] pos) (fLamC m js fb psg.length (bnd f1 fun x => bnd f2 fun y => ret [x, y])) :=
  let ⟨ta, pa, ea⟩ := ha.ex
  let ⟨tb, pb, eb⟩ := hb'.ex
  ⟨_, ⟨fun pins s σ H Q I h => by
    refine wpAny_Call_Name_kw (ld_glob I hg hm ?_ hdb)
    refine PySem.W.callWith_K (h₀ := X.base) I.ok.mod.kin hk ?_ he hpl
    rw [he, he2]
    show wpAny _ _ (spliced ((false, eval a X.env) :: (false, eval b X.env) :: (false, eval (.Lambda params body scope lpos) X.env) :: backTo pos (starEach [] X.env))) _ _ s
    have h : ta σ H fun v1 H1 => tb σ H1 fun v2 H2 => FinL C m js fb psg.length σ H2 Q [v1, v2] := h
    refine Calls.spliced_cons (thn (pa.run pins s σ H _ I h) fun u1 s1 ⟨v1, H1, I1, r1, h1⟩ => ?_)
    refine Calls.spliced_cons (thn (pb.run pins s1 σ H1 _ I1 h1) fun u2 s2 ⟨v2, H2, I2, r2, h2⟩ => ?_)
    refine Calls.spliced_cons (lam_make2 I2 La.TB La.code La.mem La.uni h2.tab La.dflt (La.L.has I.ok) fun f c' pm' ctv H3 s' I3 eN T1 hf hfn hfr hco => ?_)
    exact Calls.spliced_nil ⟨I3.kIn, lam_fin (us := [u1, u2]) FL La hnp hr k1 k2 tk hb h2 I3 (.cons r1 (.cons r2 .nil)) eN T1 hf hfn hfr hco⟩⟩, ev_lamC (ta := fun σ H Q => ta σ H fun v1 H1 => tb σ H1 fun v2 H2 => Q [v1, v2] H2) fun ws H s σ ρ R Q S N h xx q => (ea.b) S N h xx fun x s1 h v ws1 H1 t1 S1 r1 =>
      (eb.b) S1 (N.stp t1) h (xx.stp t1) fun y s2 h u ws2 H2 t2 S2 r2 => by
      cases h
      exact q _ _ rfl [v, u] ws2 H2 (t1.trans t2) S2 ⟨v, [u], rfl, r1.stp t2, u, [], rfl, r2, rfl⟩⟩
end
end
end VM
set_option Elab.async false
set_option maxRecDepth 100000
set_option maxHeartbeats 4000000
set_option linter.all false
set_option autoImplicit false
/-! What the end gives, class by class; the law's own promise. -/
namespace VM
open PySem L2 VE

theorem takes0 {X : Cx} : Takes X W0 := fun _ _ ⟨_, _, _, _, _, _, _, _, _, _, _, _, _, _, _, _, w⟩ => w.elim

/-! ### instances' classes -/
def allTN : List TN := [.int, .bool, .str, .list, .tuple, .dict, .set]
def insB (K : PySem.W.Frag) (C : Addr) : Bool := PySem.W.plainGet K C Str.empty && (PySem.W.hasDictIn K C && (PySem.W.plainOver K C && (decide (PySem.W.findIn K (.ref C) "__setattr__" = some (some (.builtin "object.__setattr__"))) &&
  (decide (PySem.W.findIn K (.ref C) "__class__" = some (some (.builtin "object.__class__"))) && (decide (PySem.W.specialIn K (.builtin "object.__class__") "__get__" = some (some (.builtin "getset_descriptor.__get__"))) &&
  (decide (PySem.W.takesIn K (.builtin "object.__class__") = some true) && (decide (PySem.W.mroIn K C (.type "object") = some true) && allTN.all fun t => decide (PySem.W.kitOne K (.ref C) (.type t.nm) = some false))))))))
theorem insB_ok {K : PySem.W.Frag} {C : Addr} (h : insB K C = true) : InsC K C := by
  unfold insB at h
  simp only [Bool.and_eq_true, decide_eq_true_eq, List.all_eq_true] at h
  obtain ⟨h1, h2, h3, h4, h5, h6, h7, h8, h9⟩ := h
  exact ⟨⟨h1, h2, h3, h4⟩, h5, h6, h7, h8, fun t => h9 t (by cases t <;> simp [allTN])⟩
/-- no attribute of the class has one of the names -/
def noB (K : PySem.W.Frag) (C : Addr) (fs : List Str) : Bool := fs.all fun f => decide (PySem.W.findIn K (.ref C) f = some none)
theorem noB_ok {K : PySem.W.Frag} {C : Addr} {fs : List Str} (h : noB K C fs = true) : ∀ f ∈ fs, NoAttr K C f := fun f hf => (of_decide_eq_true (List.all_eq_true.mp h f hf) : PySem.W.findIn K (.ref C) f = some none)
/-- isinstance(x, D), D an own class: what built-in types answer; what the classes answer -/
def tyB (K : PySem.W.Frag) (C : Addr) : Bool := tyN.all fun x => decide (PySem.W.kitOne K (.type x) (.ref C) = some false)
theorem tyB_ok {K : PySem.W.Frag} {C : Addr} (h : tyB K C = true) : ∀ x ∈ tyN, PySem.W.kitOne K (.type x) (.ref C) = some false := fun x hx => of_decide_eq_true (List.all_eq_true.mp h x hx)
def tabB (K : PySem.W.Frag) (C : Addr) (tab : List (Addr × Bool)) : Bool := tab.all fun q => decide (PySem.W.kitOne K (.ref q.1) (.ref C) = some q.2)
theorem tabB_ok {K : PySem.W.Frag} {C : Addr} {ad : Nat → Addr} {tab : List (Nat × Bool)} (h : tabB K C (tab.map fun q => (ad q.1, q.2)) = true) : ∀ q ∈ tab, PySem.W.kitOne K (.ref (ad q.1)) (.ref C) = some q.2 := fun q hq =>
  of_decide_eq_true (List.all_eq_true.mp h (ad q.1, q.2) (List.mem_map.mpr ⟨q, hq, rfl⟩))
/-- except D: what the classes of errors answer -/
def exmB (K : PySem.W.Frag) (c : Value) (tab : List (Addr × Bool)) : Bool := tab.all fun q => decide (PySem.W.exmOne K (.ref q.1) c = some q.2)
theorem exmB_ok {K : PySem.W.Frag} {c : Value} {ad : Nat → Addr} {tab : List (Nat × Bool)} (h : exmB K c (tab.map fun q => (ad q.1, q.2)) = true) : ∀ q ∈ tab, PySem.W.exmOne K (.ref (ad q.1)) c = some q.2 := fun q hq =>
  of_decide_eq_true (List.all_eq_true.mp h (ad q.1, q.2) (List.mem_map.mpr ⟨q, hq, rfl⟩))

/-! ### errors' classes -/
/-- of an error class: names, ValueError, the class object's parts -/
def errB (K : PySem.W.Frag) (C : Addr) : Bool := decide (PySem.W.findIn K (.ref C) "__setattr__" = some (some (.builtin "object.__setattr__"))) && (decide (PySem.W.subIn K (.ref C) (.type "BaseException") = some true) && (decide (PySem.W.typeIn K (.ref C) = some (.type "type")) && (PySem.W.keepIn K (.ref C) &&
  (decide (PySem.W.subIn K (.ref C) (.type "ValueError") = some true) && (decide (PySem.W.findIn K (.ref C) "place" = some none) && (decide (PySem.W.findIn K (.ref C) "name" = some none) && xfB K C))))))
theorem errB_own {K : PySem.W.Frag} {C : Addr} (h : errB K C = true) {nm q : Str} {N : Addr} {bs bm : List Value} {sn : List Str} {sub : List Value} {ab : Bool} {col : Option Bool} {dd : Option Addr} {k0 k1 k2 k3 k5 : Option Value}
    (l : K.lookup C = some (excClassObj nm q C N bs bm true sn sub ab col dd k0 k1 k2 k3 k5 "ValueError.__new__")) (r : PySem.HandSPX.refsVE bm = true) : OwnC K C ∧ XfOk K C := by
  unfold errB at h
  simp only [Bool.and_eq_true, decide_eq_true_eq] at h
  obtain ⟨h1, h2, h3, h4, h5, h6, h7, h8⟩ := h
  exact ⟨⟨⟨⟨nm, q, N, bs, bm, sn, sub, ab, col, dd, k0, k1, k2, k3, k5, l, r⟩, h1, h2, h3, h4⟩, h5, h6, h7⟩, ⟨xfB_ok h8, h6, h7⟩⟩
section
variable {P : Program} {w : World} {K : PySem.W.Frag} {mg : Str → Option Value} {base : Heap} {qual qual' : Str} {q1 q2 q1' q2' : Pos} {bd bd' : List Stmt} {f D cc c f' D' cc' c' : Addr} {p0 p1 p2 p3 p4 p5 p0' p1' p2' p3' p4' p5' : Pos}
theorem sup_binds {doc pm ct : Value} {an : Option Addr} : Binds K (PySem.W.fnX "__init__" qual (supAr q1 q2) bd supSc [("__class__", cc)] .none .none doc pm an (.ref c) ct) supPs [] := .all fun us hl => match us, hl with | [_, _], _ => rfl
/-- what the end says of an error class's maker -/
structure ErrI (K : PySem.W.Frag) (P : Program) (mg : Str → Option Value) (x qual : Str) (q1 q2 : Pos) (bd : List Stmt) (f D cc c : Addr) : Prop where
  S : SupF K P mg qual q1 q2 bd f D cc c
  gm : mg x = some (.ref D)
  own : OwnC K D
  xf : XfOk K D
  ini : PySem.W.findIn K (.ref D) "__init__" = some (some (.ref f))
  ty : PySem.W.typeIn K (.ref f) = some (.type "function")
  fn : PySem.W.fnIn K f = true
theorem fn_cityErr {nm : Str} {r1 r2 r3 r4 r5 r6 r7 r8 : Pos} {j : Nat} (S : SupF K P mg qual q1 q2 bd f D cc c) (hbd : bd = [.Expr (supCall p0 p1 p2 p3 p4) p5, .Assign [.Attribute (.Name "self" r1) "place" r2] (.Name "place" r3) r4, .Assign [.Attribute (.Name "self" r5) "name" r6] (.Constant (.str nm) j r7) r8])
    (hco : CallOk qual q1 q2 bd cc c f p0 p1 p2 p3 p4) (k : Nat) : ∃ fd, FnOk P w K mg base CX0 (k + 1) f fd supPs (spB K D nm) ∧ Binds K fd supPs [] := by
  obtain ⟨oc, od, doc, pm, an, ctv, sl, lk⟩ := S.lk
  exact ⟨_, fn_base S hco ⟨oc, od, doc, pm, an, ctv, sl, rfl, lk⟩ hbd, sup_binds⟩
theorem err_base {x nm : Str} {r1 r2 r3 r4 r5 r6 r7 r8 : Pos} {j : Nat} (I : ErrI K P mg x qual q1 q2 bd f D cc c) (hbd : bd = [.Expr (supCall p0 p1 p2 p3 p4) p5, .Assign [.Attribute (.Name "self" r1) "place" r2] (.Name "place" r3) r4, .Assign [.Attribute (.Name "self" r5) "name" r6] (.Constant (.str nm) j r7) r8])
    (hco : CallOk qual q1 q2 bd cc c f p0 p1 p2 p3 p4) (sc : SupC K D D (.builtin "ValueError.__init__")) : ErrOk P w K mg base 2 x D nm := by
  obtain ⟨fd, G, hb⟩ := fn_cityErr (w := w) (base := base) I.S hbd hco 1
  exact ⟨I.own, I.gm, f, fd, _, fun p => [(("name" : Str), .str nm), (("place" : Str), p)], I.ini, I.ty, G, hb, fun p => ⟨rfl, rfl⟩, fun e p H Q E h q => ⟨e, D, p, rfl, I.own, sc, h, fun dx H' z => q dx H' z⟩⟩
theorem err_own {x x' nm nm' : Str} {r1 r2 r3 r4 r5 r6 r7 r8 r5' r6' r7' r8' : Pos} {j j' : Nat} (I' : ErrI K P mg x' qual' q1' q2' bd' f' D' cc' c') (I : ErrI K P mg x qual q1 q2 bd f D cc c)
    (hbd' : bd' = [.Expr (supCall p0' p1' p2' p3' p4') p5', .Assign [.Attribute (.Name "self" r1) "place" r2] (.Name "place" r3) r4, .Assign [.Attribute (.Name "self" r5) "name" r6] (.Constant (.str nm') j r7) r8])
    (hco' : CallOk qual' q1' q2' bd' cc' c' f' p0' p1' p2' p3' p4')
    (hbd : bd = [.Expr (supCall p0 p1 p2 p3 p4) p5, .Assign [.Attribute (.Name "self" r5') "name" r6'] (.Constant (.str nm) j' r7') r8'])
    (hco : CallOk qual q1 q2 bd cc c f p0 p1 p2 p3 p4) (sc : SupC K D D (.ref f')) (sc' : SupC K D D' (.builtin "ValueError.__init__")) : ErrOk P w K mg base 2 x D nm := by
  obtain ⟨fd', G, hb⟩ := fn_cityErr (w := w) (base := base) I'.S hbd' hco' 0
  obtain ⟨oc, od, doc, pm, an, ctv, sl, lk⟩ := I.S.lk
  have F := fn_own (k := 1) (w := w) (base := base) (nm := nm) (bn := nm') I.S hco ⟨oc, od, doc, pm, an, ctv, sl, rfl, lk⟩ (G.mono (by decide)) hb I'.ty I'.fn hbd
  exact ⟨I.own, I.gm, f, _, _, fun p => [(("name" : Str), .str nm), (("name" : Str), .str nm'), (("place" : Str), p)], I.ini, I.ty, F, sup_binds, fun p => ⟨rfl, rfl⟩, fun e p H Q E h q => ⟨e, D, p, rfl, I.own, sc, sc', h, fun dx H' z => q dx H' z⟩⟩
end
end VM
set_option Elab.async false
set_option maxRecDepth 100000
set_option maxHeartbeats 4000000
set_option linter.all false
set_option autoImplicit false
/-! list(x) that is owned; the law's end. -/
namespace VM
open PySem L2 VE
/-! ### a call that gives a new list, owned from now on -/
def CallSO (T : Kt) (r : List V → Hp → VK → Prop) (g : GC) : Prop := ∀ (ws : Ws) (H : Hp) (s : Sto) (xs : List D) (z : D) (vs : List V) (Q : VK), Sta T ws H s → Reps T ws (mask ws H) xs vs → g s xs = some z →
  (∀ l ys ds, z = .lst ds → H l = none → Reps T ws (mask ws H) ds ys → Q (.ref l) (upd H l (.lst ys))) → r vs H Q
def fCBo (g : GC) (fa : M (List D)) : M D := bnd fa fun xs => fun _ s => match g s xs with
  | some (.lst ds) => some (.ok (.own s.length) (s ++ [.lst ds]))
  | _ => none
theorem ev_cbo {C : Cn} {r : List V → Hp → VK → Prop} {gg : GC} {ta : TA} {fa : M (List D)} (ho : CallSO C.T r gg) (ea : EvA C ta fa) : EvS C (tCB r ta) (fCBo gg fa) := fun ws H s σ ρ R Q S N h xx q => (ea.b) S N h xx fun xs s1 h vs ws1 H1 t1 S1 r1 => by
  split at h
  · rename_i ds e
    cases h
    refine ho ws1 H1 _ xs _ vs Q S1 r1 e fun l ys ds' e2 hl r2 => ?_
    cases e2
    have t2 : Stp ws1 H1 (ws1.add l) (upd H1 l (.lst ys)) := S1.stp_own hl
    exact q _ _ rfl _ (ws1.add l) _ (t1.trans t2) (S1.newOwn (so := .lst ds) hl r2) (rep_last S1)
  · cases h
section
variable {X : Cx} {C : Cn} {a b c e : Expr} {es : List Expr} {pos p : Pos}
theorem de_callTyO {x : Str} {T : String} {r : List V → Hp → VK → Prop} {gg : GC} {fa : M (List D)} (hc : CallR X (.type T) r) (ho : CallSO C.T r gg) (hm : X.mg x = none) (hv : bootBuiltins x = some (.type T)) (ha : DA X C (e :: es) fa) (hg : Gl X x := by rfl)
    (hn : x ≠ "__name__" := by decide) (hdb : (x == ("__debug__" : Str)) = false := by decide)
    (he : starEach (e :: es) X.env = (false, eval e X.env) :: starEach es X.env := by rfl) (hpl : (backTo pos (starEach es X.env)).any (·.1) = false := by rfl) : DE X C (.Call (.Name x p) (e :: es) [] pos) (fCBo gg fa) :=
  let ⟨_, pa, ea⟩ := ha.ex
  ⟨_, pe_callTy hc hg hm hv pa hn hdb he hpl, ev_cbo ho ea⟩
end
theorem co_list {T : Kt} : CallSO T (fun xs H Q => ∃ p ys, xs = [.ref p] ∧ (SqL T.K H p ys ∨ SqT T.K H p ys) ∧ ∀ l, H l = none → Q (.ref l) (upd H l (.lst ys))) (c1 listD) := fun ws H s xs z vs Q S r e q => by
  obtain ⟨x, rfl, e1⟩ := c1_some e
  obtain ⟨v, rfl, r1⟩ := reps_one r
  replace e := e1
  replace r := r1
  unfold listD at e
  split at e
  · cases e
    obtain ⟨a, ys, rfl, h1, h2⟩ := r
    exact ⟨a, ys, rfl, .inr (sqT_un h1), fun l hl => q l ys _ rfl hl h2⟩
  · obtain ⟨ds, h, rfl⟩ := Option.map_eq_some_iff.mp e
    obtain ⟨a, ys, rfl, h1, h2⟩ := itL_ok S r h
    exact ⟨a, ys, rfl, .inl h1, fun l hl => q l ys _ rfl hl h2⟩

/-! ### a def of a known code object -/
structure FunC (K : PySem.W.Frag) (x qual : Str) (st : Stmt) (f c : Addr) (fd : FuncData) : Prop where
  F : Fun K x qual st f fd
  code : fd.code = .ref c
section
variable {P : Program} {w : World} {T : Kt} {mg : Str → Option Value} {base : Heap}
theorem fn_okC {x qual : Str} {st : Stmt} {f c : Addr} {fd : FuncData} {N ps : List Str} {k : Nat} {g : MS} {m : FM} (kp : Bool) (F : FunC T.K x qual st f c fd) (S : FnScope N ps (defScope st))
    (hbody : ∀ (A : Around) (outer : List Env) (s : Shared) (H : Hp) (E : XK), Room k (A.deeper (PyProof.Rows.envOfC qual (defScope st) s.heap.objs.size f (.ref c))) →
      Takes (cxOf (L2.CX P w) P w T.K mg base N qual (defScope st) f (.ref c) A outer s H E) (WD E) → PassesOwn (model P w) (cxOf (L2.CX P w) P w T.K mg base N qual (defScope st) f (.ref c) A outer s H E).A (cxOf (L2.CX P w) P w T.K mg base N qual (defScope st) f (.ref c) A outer s H E).env (cxOf (L2.CX P w) P w T.K mg base N qual (defScope st) f (.ref c) A outer s H E).xe →
      DSs (cxOf (L2.CX P w) P w T.K mg base N qual (defScope st) f (.ref c) A outer s H E) ⟨T, WD E, none⟩ (defBody st) g)
    (hm : ∀ s ds r, m s ds = some r → run kp N.length g s ds = some r) : FnOk P w T.K mg base (L2.CX P w) (k + 1) f fd ps (spF T ps.length m) := by
  obtain ⟨oc, od, kV, doc, pm, an, cdv, ct, osl, rfl, lk, hcd⟩ := F.F.ex
  have ec : cdv = .ref c := F.code
  subst ec
  refine fn_of lk hcd S (fun vs H Q E h => h.1) fun A outer s H vs Q E hr h => ?_
  obtain ⟨hl, ws, s0, ds, r0, S0, r, hv, hx, q⟩ := h
  obtain ⟨t, pb, eb⟩ := (hbody A outer s H E hr (takes_of rfl rfl rfl rfl) (passes_of rfl)).ex
  refine ⟨t, pb, ?_⟩
  have h2 := hm _ _ _ hv
  unfold run at h2
  split at h2
  · rename_i d1 s1 h3
    refine eb ws H s0 _ _ _ _ S0 (env_start r) h3 fun v ws1 H1 t1 S1 r1 => ?_
    obtain ⟨d2, s2, rfl⟩ := fin_res h2
    obtain ⟨ws2, t2, S2, r2⟩ := fin_ok S0 t1 S1 r1 h2
    exact q _ _ rfl v ws2 H1 t2 S2 r2
  · rename_i ρ1 s1 h3
    refine eb ws H s0 _ _ _ _ S0 (env_start r) h3 fun σ1 ws1 H1 t1 S1 N1 => ?_
    obtain ⟨d2, s2, rfl⟩ := fin_res h2
    obtain ⟨ws2, t2, S2, r2⟩ := fin_ok (d := .non) (v := .non) S0 t1 S1 rfl h2
    exact q _ _ rfl .non ws2 H1 t2 S2 r2
  · rename_i e ρ1 s1 h3
    refine eb ws H s0 _ _ _ _ S0 (env_start r) h3 fun σ1 cls dx ws1 H1 t1 S1 N1 x1 => ?_
    obtain ⟨s2, ws2, rfl, t2, S2, x2⟩ := finX_ok S0 t1 S1 x1 h2
    exact hx cls dx ws2 H1 t2 S2 x2
  · cases h2
end
theorem mem_at {α : Type} {l : List α} (i : Nat) {x : α} (h : l[i]? = some x) : x ∈ l := List.mem_of_getElem? h
def utB (l : List (Addr × Str)) : Bool := l.all fun p => l.all fun p' => !(p.1 == p'.1) || decide (p.2 = p'.2)
theorem utB_ok {l : List (Addr × Str)} {P : Addr} {q : Str} (h : utB l = true) (hm : (P, q) ∈ l) : ∀ p ∈ l, p.1 = P → p.2 = q := fun p hp e => by
  have h1 := List.all_eq_true.mp (List.all_eq_true.mp h p hp) (P, q) hm
  simp only [Bool.or_eq_true, Bool.not_eq_true', beq_eq_false_iff_ne, decide_eq_true_eq] at h1
  exact h1.resolve_left fun z => z e

/-! ### the law's own promise -/
/-- a list of at most 63 ints is handed in, the tables are empty, True comes out -/
def spLaw (K : PySem.W.Frag) (tabs : List (Addr × Str)) : Sp := fun vs H Q _ => ∃ (a : Addr) (ns : List Int), vs = [.ref a] ∧ SqL K H a (ns.map V.int) ∧ ns.length ≤ 63 ∧ (∀ z ∈ ns, Builtin.Int.intBits z ≤ 1048576) ∧ (∀ p ∈ tabs, H p.1 = some (.tbl #[])) ∧ ∀ H', Q (.bl true) H'
theorem law_ok {P : Program} {w : World} {T : Kt} {mg : Str → Option Value} {base : Heap} {k : Nat} {f : Addr} {fd : FuncData} {m : FM} (hm : ∀ ns : List Int, ns.length ≤ 63 → (∀ z ∈ ns, Builtin.Int.intBits z ≤ 1048576) → ∃ s, m [] [.lck (ns.map D.int)] = some (.ok (.bl true) s))
    (G : FnOk P w T.K mg base (L2.CX P w) k f fd ["script"] (spF T 1 m)) : FnOk P w T.K mg base (L2.CX P w) k f fd ["script"] (spLaw T.K T.tabs) :=
  G.imp fun vs H Q E h => by
    obtain ⟨a, ns, rfl, hS, hl, hb, ht, q⟩ := h
    obtain ⟨s', e⟩ := hm ns hl hb
    refine ⟨rfl, ⟨[], []⟩, [], [.lck (ns.map D.int)], .ok (.bl true) s', ⟨List.nodup_nil, rfl, fun _ z => (nomatch z), fun _ z => (nomatch z), fun l a ds z => by simp at z, fun p hp => LamX.TabS.nil (ht p hp)⟩, ⟨.ref a, [], rfl, ⟨a, ns.map V.int, rfl, ?_, reps_ints ns⟩, rfl⟩, e, True.intro, fun d s2 e2 v ws' H' _ _ r => by
      cases e2
      cases r
      exact q H'⟩
    have mk : ∀ {b o}, H b = some o → noTb (some o) = some o → mask ⟨[], []⟩ H b = some o := fun e nt => mask_in (ws := ⟨[], []⟩) ⟨by simp, by simp⟩ e nt
    rcases hS with (z | ⟨o, z⟩) | z
    · exact .inl (.inl (mk z rfl))
    · exact .inl (.inr ⟨o, mk z rfl⟩)
    · exact .inr z
/-- what the text's facts give of the law: its def, the makers' code objects and tables -/
theorem law_at {l : PySem.W.OpenLaw} {w : World} {K : PySem.W.Frag} {k : Nat} {mg : Str → Option Value} {fa : Addr} {h : Heap} {ts : List Addr} {fd : FuncData} {cs : List (Addr × Addr)} {tabs : List (Addr × Str)} (X : K.In h)
    (HT : ∀ P ∈ ts, h.get? P = some { cls := .none, data := .fields #[] }) (h1 : ∀ p ∈ cs, p.2 ∈ ts) (h2 : ∀ p ∈ cs, K.lookup p.2 = none) (h3 : ∀ p ∈ cs, PySem.W.codeHdIn K p.1 p.2 = true) (h4 : tabs.map (·.1) = cs.map (·.2))
    (hb : ∀ (s : Shared) (u : Value), BindsTo s fd ⟨[u], []⟩ [("script", u)])
    (F : ∀ base : Heap, K.In base → base.Ns mainGlobals mg → (∀ p ∈ cs, LamX.TabB base mg p.1 p.2) → FnOk l.prog w K mg base (L2.CX l.prog w) k fa fd ["script"] (spLaw K tabs)) : LamX.LawAtS l w K (L2.CX l.prog w) k 63 "script" mg fa h :=
  ⟨fd, cs, _, fun p hp => HT _ (h1 p hp), h2, fun p hp => PySem.W.codeHd_of_K X (h3 p hp), hb, fun H a ns hl hbits hT hS => ⟨a, ns, rfl, hS, hl, hbits, fun p hp => by
    have hm : p.1 ∈ cs.map (·.2) := by
      rw [← h4]
      exact List.mem_map.mpr ⟨p, hp, rfl⟩
    obtain ⟨r, hr, e⟩ := List.mem_map.mp hm
    rw [← e]
    exact hT r hr, fun _ => rfl⟩, F⟩
theorem walk {k : Nat} {l : PySem.W.OpenLaw} {q : Program} {loose : List Str} {XP : (Str → Option Value) → Heap → Prop} {YP : World → Heap → Prop} {d : DefRec} {K : Params → PySem.W.Frag} (hk : k ≤ 40) (hn : l.most = some 63) (hdf : d.params.defaults = [])
    (hY : ∀ (w : World) (h : Heap), YP w h → (K w.params).In h)
    (F : ∀ (w : World) (mg : Str → Option Value) (fa : Addr) (h : Heap), YP w h → (K w.params).In h → h.Ns mainGlobals mg → mg d.name = some (.ref fa) → LamX.LawAtS l w (K w.params) (L2.CX l.prog w) k 63 "script" mg fa h) :
    PySem.W.WalkO q loose XP YP l.row.toRowW d [] (fun f vs => PySem.call f vs) := by
  have hr : Room 40 callerA := ⟨rfl, by decide, by decide⟩
  refine LamX.walk_ofTs (n := 63) (k := k) (x := "script") (CX := fun w => L2.CX l.prog w) hn (by decide) hdf (hr.mono hk) hY F ?_
  rintro w H s e s' ⟨_, _, _, _, _, _, _, _, _, _, _, _, z⟩
  exact z
end VM
set_option Elab.async false
set_option maxRecDepth 100000
set_option maxHeartbeats 4000000
set_option linter.all false
set_option autoImplicit false
/-! Dicts whose keys are tuples of ints and texts; list(range(..)), tuple(range(..)); defs whose objects all stay owned. -/
namespace VM
open PySem L2
noncomputable section
def keysD : List D → Option (List Key)
  | [] => some []
  | d :: ds => (keyK d).bind fun k => (keysD ds).map fun ks => k :: ks
def keyT : D → Option (List Key)
  | .tup ds => keysD ds
  | _ => none
theorem keysD_rep {T : Kt} {ws : Ws} {H : Hp} : ∀ {ds : List D} {xs : List V} {ks : List Key}, Reps T ws H ds xs → keysD ds = some ks → xs = ks.map kV
  | [], _, _, r, h => by cases h; cases r; rfl
  | d :: ds, _, ks, ⟨v, r, hv, h1, h2⟩, h => by
    simp only [keysD, Option.bind_eq_some_iff, Option.map_eq_some_iff] at h
    obtain ⟨k, e1, ks', e2, rfl⟩ := h
    rw [hv, keyK_rep h1 e1, keysD_rep h2 e2]
    rfl
theorem keyT_rep {T : Kt} {ws : Ws} {H : Hp} {d : D} {v : V} {k : List Key} (r : Rep T ws H d v) (h : keyT d = some k) : ∃ b, v = .ref b ∧ H b = some (.tup (k.map kV)) := by
  cases d <;> first | (cases h; done) | skip
  obtain ⟨a, xs, rfl, h1, h2⟩ := r
  have := keysD_rep h2 h
  subst this
  exact ⟨a, rfl, h1⟩
theorem keysD_keyD : ∀ k : List Key, keysD (k.map keyD) = some k
  | [] => rfl
  | k :: ks => by rw [List.map_cons, keysD, keyK_keyD, keysD_keyD ks]; rfl
theorem keyT_keyD (k : List Key) : keyT (.tup (k.map keyD)) = some k := keysD_keyD k
/-- what stands at a key -/
def lookT (k : List Key) : List D → List D → Option D
  | x :: ks, v :: vs => if keyT x = some k then some v else lookT k ks vs
  | _, _ => none
def hasT (k : List Key) (ks : List D) : Bool := ks.any fun x => decide (keyT x = some k)
def putVsT (k : List Key) (z : D) : List D → List D → List D
  | x :: ks, v :: vs => (if keyT x = some k then z else v) :: putVsT k z ks vs
  | _, _ => []
def kputT (k : List Key) (z : D) (ks vs : List D) : List D × List D := if hasT k ks = true then (ks, putVsT k z ks vs) else (ks ++ [D.tup (k.map keyD)], vs ++ [z])
def dctOfT (s : Sto) : D → Option (List D × List D)
  | .dct true ks vs => some (ks, vs)
  | .own l => match s[l]? with
    | some (.dct true ks vs) => some (ks, vs)
    | _ => none
  | _ => none
theorem dctOfT_ok {T : Kt} {ws : Ws} {H : Hp} {s : Sto} {d : D} {v : V} {ks vs : List D} (S : Sta T ws H s) (r : Rep T ws (mask ws H) d v) (h : dctOfT s d = some (ks, vs)) :
    ∃ a kvs, v = .ref a ∧ H a = some (.dT kvs) ∧ ks = kvs.map (fun p => D.tup (p.1.map keyD)) ∧ Reps T ws (mask ws H) vs (kvs.map (·.2)) := by
  cases d with
  | dct t ks' vs' =>
    cases t with
    | false => cases h
    | true =>
      cases h
      obtain ⟨a, rfl, ⟨z, _⟩ | ⟨_, kvs, h1, h2, h3⟩⟩ := r
      · cases z
      · exact ⟨a, kvs, rfl, (mask_some h1).2, h2, h3⟩
  | own l =>
    obtain ⟨a, h1, rfl⟩ := r
    simp only [dctOfT] at h
    split at h
    · rename_i e
      cases h
      obtain ⟨o, h2, h3⟩ := S.own l a _ h1 e
      cases o <;> first | exact h3.elim | skip
      · cases h3.1
      · exact ⟨a, _, rfl, h2, h3.2.1, h3.2.2⟩
    · cases h
  | _ => cases h
theorem lookT_ok {T : Kt} {ws : Ws} {H : Hp} (k : List Key) : ∀ {kvs : List (List Key × V)} {vs : List D}, Reps T ws H vs (kvs.map (·.2)) →
    (∀ z, lookT k (kvs.map fun p => D.tup (p.1.map keyD)) vs = some z → ∃ w, valV kvs k = some w ∧ Rep T ws H z w) ∧ (lookT k (kvs.map fun p => D.tup (p.1.map keyD)) vs = none → valV kvs k = none)
  | [], vs, _ => ⟨fun z h => by (cases vs <;> cases h), fun _ => rfl⟩
  | p :: kvs, [], r => by cases r
  | p :: kvs, d :: vs, ⟨v, r, hv, h1, h2⟩ => by
    rw [List.map_cons] at hv
    injection hv with e1 e2
    subst e1 e2
    have ih := lookT_ok k h2
    simp only [List.map_cons, lookT, keyT_keyD]
    by_cases e : p.1 = k
    · rw [if_pos (by rw [e]), valV_pos e]
      exact ⟨fun z hz => by cases hz; exact ⟨_, rfl, h1⟩, fun hz => by cases hz⟩
    · rw [if_neg (fun q => e (by injection q)), valV_neg e]
      exact ih
theorem hasT_any (k : List Key) (kvs : List (List Key × V)) : hasT k (kvs.map fun p => D.tup (p.1.map keyD)) = kvs.any fun p => decide (p.1 = k) := by
  unfold hasT
  rw [List.any_map]
  congr 1
  funext p
  simp only [Function.comp_apply, keyT_keyD, Option.some.injEq]
theorem putVsT_ok {T : Kt} {ws : Ws} {H : Hp} (k : List Key) {z : D} {w : V} (hz : Rep T ws H z w) : ∀ {kvs : List (List Key × V)} {vs : List D}, Reps T ws H vs (kvs.map (·.2)) →
    Reps T ws H (putVsT k z (kvs.map fun p => D.tup (p.1.map keyD)) vs) ((kvs.map fun kv => if kv.1 = k then (kv.1, w) else kv).map (·.2))
  | [], [], r => rfl
  | [], _ :: _, ⟨_, _, e, _⟩ => by cases e
  | p :: kvs, [], r => by cases r
  | p :: kvs, d :: vs, ⟨v, r, hv, h1, h2⟩ => by
    rw [List.map_cons] at hv
    injection hv with e1 e2
    subst e1 e2
    have ih := putVsT_ok k hz h2
    simp only [List.map_cons, putVsT, keyT_keyD]
    by_cases e : p.1 = k
    · rw [if_pos (by rw [e]), if_pos e]
      exact ⟨_, _, rfl, hz, ih⟩
    · rw [if_neg (fun q => e (by injection q)), if_neg e]
      exact ⟨_, _, rfl, h1, ih⟩
theorem map_replT (k : List Key) (w : V) : ∀ kvs : List (List Key × V), (kvs.map fun kv => if kv.1 = k then (kv.1, w) else kv).map (fun p => D.tup (p.1.map keyD)) = kvs.map fun p => D.tup (p.1.map keyD)
  | [] => rfl
  | p :: kvs => by
    rw [List.map_cons, List.map_cons, List.map_cons, map_replT k w kvs]
    by_cases e : p.1 = k
    · rw [if_pos e]
    · rw [if_neg e]
theorem kputT_ok {T : Kt} {ws : Ws} {H : Hp} {k : List Key} {z : D} {w : V} {kvs : List (List Key × V)} {vs : List D} (hz : Rep T ws H z w) (r : Reps T ws H vs (kvs.map (·.2))) :
    (kputT k z (kvs.map fun p => D.tup (p.1.map keyD)) vs).1 = (putK kvs k w).map (fun p => D.tup (p.1.map keyD)) ∧ Reps T ws H (kputT k z (kvs.map fun p => D.tup (p.1.map keyD)) vs).2 ((putK kvs k w).map (·.2)) := by
  unfold kputT putK
  rw [hasT_any]
  by_cases e : (kvs.any fun p => decide (p.1 = k)) = true
  · rw [if_pos e, if_pos e]
    exact ⟨(map_replT k w kvs).symm, putVsT_ok k hz r⟩
  · rw [if_neg e, if_neg e, List.map_append, List.map_append]
    exact ⟨rfl, r.append ⟨w, [], rfl, hz, rfl⟩⟩

def getT' (s : Sto) (x y : D) : Option D := (dctOfT s x).bind fun p => (keyT y).bind fun k => lookT k p.1 p.2
def inT (s : Sto) (y x : D) : Option D := (dctOfT s x).bind fun p => (keyT y).map fun k => .bl (lookT k p.1 p.2).isSome
def ninT (s : Sto) (y x : D) : Option D := (dctOfT s x).bind fun p => (keyT y).map fun k => .bl (!(lookT k p.1 p.2).isSome)
theorem tget_ok {T : Kt} {ws : Ws} {H : Hp} {s : Sto} {x y : D} {v u : V} {p : List D × List D} {k : List Key} (S : Sta T ws H s) (r1 : Rep T ws (mask ws H) x v) (r2 : Rep T ws (mask ws H) y u) (h1 : dctOfT s x = some p) (h2 : keyT y = some k) :
    ∃ a o, v = .ref a ∧ DGet H a u o ∧ (match lookT k p.1 p.2 with | some z => ∃ w, o = some w ∧ Rep T ws (mask ws H) z w | none => o = none) := by
  obtain ⟨ks, vs⟩ := p
  obtain ⟨a, kvs, rfl, h3, rfl, h5⟩ := dctOfT_ok S r1 h1
  obtain ⟨b, rfl, hb⟩ := keyT_rep r2 h2
  refine ⟨a, valV kvs k, rfl, .t h3 (mask_some hb).2, ?_⟩
  obtain ⟨q1, q2⟩ := lookT_ok k h5
  show (match lookT k (kvs.map fun p => D.tup (p.1.map keyD)) vs with | some z => ∃ w, valV kvs k = some w ∧ Rep T ws (mask ws H) z w | none => valV kvs k = none)
  cases e : lookT k (kvs.map fun p => D.tup (p.1.map keyD)) vs with
  | some z => exact q1 z e
  | none => exact q2 e
theorem ops_tget {T : Kt} : OpS T rDGet getT' := fun ws H s x y z v u Q S r1 r2 e q => by
  obtain ⟨p, h1, e⟩ := Option.bind_eq_some_iff.mp e
  obtain ⟨k, h2, e⟩ := Option.bind_eq_some_iff.mp e
  obtain ⟨a, o, rfl, g, m⟩ := tget_ok S r1 r2 h1 h2
  rw [e] at m
  obtain ⟨w, rfl, rw'⟩ := m
  exact ⟨a, w, rfl, g, q _ ws H (Stp.refl _ _) S rw'⟩
theorem ops_tin {T : Kt} : OpS T rDIn inT := fun ws H s x y z v u Q S r1 r2 e q => by
  obtain ⟨p, h1, e⟩ := Option.bind_eq_some_iff.mp e
  obtain ⟨k, h2, rfl⟩ := Option.map_eq_some_iff.mp e
  obtain ⟨a, o, rfl, g, m⟩ := tget_ok S r2 r1 h1 h2
  exact ⟨a, o, rfl, g, q _ ws H (Stp.refl _ _) S (by rw [lk_is m]; rfl)⟩
theorem ops_tnin {T : Kt} : OpS T rDNin ninT := fun ws H s x y z v u Q S r1 r2 e q => by
  obtain ⟨p, h1, e⟩ := Option.bind_eq_some_iff.mp e
  obtain ⟨k, h2, rfl⟩ := Option.map_eq_some_iff.mp e
  obtain ⟨a, o, rfl, g, m⟩ := tget_ok S r2 r1 h1 h2
  exact ⟨a, o, rfl, g, q _ ws H (Stp.refl _ _) S (by rw [lk_is m]; rfl)⟩
section
variable {X : Cx} {C : Cn} {a b e : Expr} {pos p : Pos} {fv : M D}
theorem de_tget {fa fb : M D} (hu : X.A.units + 1 < cLine) (ha : DE X C a fa) (hb : DE X C b fb) (hs : NoSl b := by intro _ _; rfl) : DE X C (.Subscript a b pos) (fOp getT' fa fb) :=
  let ⟨_, pa, ea⟩ := ha.ex
  let ⟨_, pb, eb⟩ := hb.ex
  ⟨_, pe_dget hu pa pb hs, ev_op ea eb ops_tget⟩
theorem de_tin {fa fb : M D} (hu : X.A.units + 1 < cLine) (ha : DE X C a fa) (hb : DE X C b fb) (hm : behindInMarks .In b = false := by rfl) : DE X C (.Compare a [.In] [b] pos) (fOp inT fa fb) :=
  let ⟨_, pa, ea⟩ := ha.ex
  let ⟨_, pb, eb⟩ := hb.ex
  ⟨_, pe_cmp (pc_din hu pa pb) hm, ev_op ea eb ops_tin⟩
theorem dt_tin {fa fb : M D} (hu : X.A.units + 1 < cLine) (ha : DE X C a fa) (hb : DE X C b fb) (hm : behindInMarks .In b = false := by rfl) : DT X C (.Compare a [.In] [b] pos) (fBl (fOp inT fa fb)) :=
  let ⟨_, pa, ea⟩ := ha.ex
  let ⟨_, pb, eb⟩ := hb.ex
  ⟨_, pt_cmp (pc_din hu pa pb) hm, ev_test (ev_op ea eb ops_tin)⟩
theorem de_tnin {fa fb : M D} (hu : X.A.units + 1 < cLine) (ha : DE X C a fa) (hb : DE X C b fb) (hm : behindInMarks .NotIn b = false := by rfl) : DE X C (.Compare a [.NotIn] [b] pos) (fOp ninT fa fb) :=
  let ⟨_, pa, ea⟩ := ha.ex
  let ⟨_, pb, eb⟩ := hb.ex
  ⟨_, pe_cmp (pc_dnotin hu pa pb) hm, ev_op ea eb ops_tnin⟩
theorem dt_tnin {fa fb : M D} (hu : X.A.units + 1 < cLine) (ha : DE X C a fa) (hb : DE X C b fb) (hm : behindInMarks .NotIn b = false := by rfl) : DT X C (.Compare a [.NotIn] [b] pos) (fBl (fOp ninT fa fb)) :=
  let ⟨_, pa, ea⟩ := ha.ex
  let ⟨_, pb, eb⟩ := hb.ex
  ⟨_, pt_cmp (pc_dnotin hu pa pb) hm, ev_test (ev_op ea eb ops_tnin)⟩
def fNewT : M D := fun _ s => some (.ok (.own s.length) (s ++ [.dct true [] []]))
theorem de_newT : DE X C (.Dict [] [] pos) fNewT := ⟨_, pe_dnewT, fun ws H s σ ρ r Q S N h xx q => by
  cases h
  intro p hp
  have t : Stp ws H (ws.add p) (upd H p (.dT [])) := S.stp_own hp
  exact q _ _ rfl _ (ws.add p) _ t (S.newOwn (so := .dct true [] []) hp ⟨rfl, rfl, rfl⟩) (rep_last S)⟩
def tputD (s : Sto) (o i v : D) : Option Sto := match o with
  | .own l => (dctOfT s o).bind fun q => (keyT i).bind fun k => if q.1.length < LIM then some (s.set l (.dct true (kputT k v q.1 q.2).1 (kputT k v q.1 q.2).2)) else none
  | _ => none
def fSubT (fv fo fi : M D) : MS := bndS fv fun v => bndS fo fun o => bndS fi fun i ρ s => (tputD s o i v).map fun s1 => .nx ρ s1
theorem ds_tput {o i : Expr} {fo fi : M D} {pos' : Pos} (hu : X.A.units + 1 < cLine) (h : DE X C e fv) (ho : DE X C o fo) (hi : DE X C i fi) (hs : swapsWith e (some (.Subscript o i pos')) pos.line X.env = pure false := by rfl) :
    DS X C (.Assign [.Subscript o i pos'] e pos) (fSubT fv fo fi) :=
  let ⟨_, pa, ea⟩ := h.ex
  let ⟨_, po, eo⟩ := ho.ex
  let ⟨_, pi, ei⟩ := hi.ex
  ⟨_, ps_dput hu po pi pa hs, fun ws H s σ ρ out E S N h q =>
    (ea.st) S N h q fun v s1 k1 vv ws1 H1 t1 S1 r1 => (eo.st) S1 (N.stp t1) k1 (q.stp t1) fun od s2 k2 ov ws2 H2 t2 S2 r2 => (ei.st) S2 ((N.stp t1).stp t2) k2 ((q.stp t1).stp t2) fun id' s3 k3 iv ws3 H3 t3 S3 r3 => by
    obtain ⟨s4, k4, rfl⟩ := Option.map_eq_some_iff.mp k3
    unfold tputD at k4
    split at k4
    · rename_i l
      obtain ⟨⟨ks, vs⟩, k5, k4⟩ := Option.bind_eq_some_iff.mp k4
      obtain ⟨k, k6, k4⟩ := Option.bind_eq_some_iff.mp k4
      split at k4
      · rename_i hlt
        cases k4
        have r2' := r2.stp t3
        obtain ⟨a', kvs, ea', hx, rfl, rx⟩ := dctOfT_ok S3 r2' k5
        obtain ⟨a, ha1, rfl⟩ := r2'
        cases ea'
        obtain ⟨b, rfl, hk⟩ := keyT_rep r3 k6
        have rv := (r1.stp t2).stp t3
        obtain ⟨p1, p2⟩ := kputT_ok (k := k) rv rx
        have S4 := S3.put (so := .dct true _ _) (o := .dT (putK kvs k vv)) ha1 ⟨rfl, p1, p2⟩
        have t4 : Stp ws3 H3 ws3 (upd H3 a' (.dT (putK kvs k vv))) := S3.stp_put ha1
        exact ⟨a', _, rfl, .t hx (mask_some hk).2 (lim_lt (by simpa using hlt)), q σ ws3 _ (((t1.trans t2).trans t3).trans t4) S4 ((((N.stp t1).stp t2).stp t3).stp t4)⟩
      · cases k4
    · cases k4⟩
end
end
end VM
set_option Elab.async false
set_option maxRecDepth 100000
set_option maxHeartbeats 4000000
set_option linter.all false
set_option autoImplicit false
/-! list(range(..)), tuple(range(..)); defs whose objects all stay owned. -/
namespace VM
open PySem L2
noncomputable section
theorem reps_mapf {T : Kt} {ws : Ws} {M : Hp} {f : Nat → D} {g : Nat → V} (h : ∀ i, Rep T ws M (f i) (g i)) : ∀ l : List Nat, Reps T ws M (l.map f) (l.map g)
  | [] => rfl
  | i :: l => ⟨_, _, rfl, h i, reps_mapf h l⟩
theorem reps_rg {T : Kt} {ws : Ws} {M : Hp} (a b : Int) : Reps T ws M (rngD a (b - a).toNat) (rgV a b) := reps_mapf (f := fun (i : Nat) => D.int (a + (i : Int))) (g := fun (i : Nat) => V.int (a + (i : Int))) (fun _ => rfl) _
def rgOk (i j : Int) : Bool := smallI i && smallI j && decide ((j - i).toNat < LIM)
theorem rgOk_ok {i j : Int} (h : rgOk i j = true) : RgOk i j := by
  simp only [rgOk, Bool.and_eq_true, decide_eq_true_eq] at h
  obtain ⟨⟨h1, h2⟩, h3⟩ := h
  refine ⟨((smallI_iff _).mp h1).1, ((smallI_iff _).mp h1).2, ((smallI_iff _).mp h2).1, ((smallI_iff _).mp h2).2, ?_⟩
  rw [LIM_eq] at h3
  omega
def rgA (i j : Int) : Option (List D) := if rgOk i j = true then some (rngD i (j - i).toNat) else none
def fRgA1 (f : M D) : M (List D) := bnd f fun x => got fun _ => match x with
  | .int j => rgA 0 j
  | _ => none
def fRgA2 (f g : M D) : M (List D) := bnd f fun x => bnd g fun y => got fun _ => match x, y with
  | .int i, .int j => rgA i j
  | _, _ => none
def fRgT (f : M (List D)) : M D := bnd f fun xs => ret (.tup xs)
def fRgL (f : M (List D)) : M D := bnd f fun xs => ret (.lst xs)
def fRgO (f : M (List D)) : M D := bnd f fun xs => fun _ s => some (.ok (.own s.length) (s ++ [.lst xs]))
def EvR (C : Cn) (te : L2.St → Hp → (Int → Int → Hp → Prop) → Prop) (f : M (List D)) : Prop := ∀ (ws : Ws) (H : Hp) (s : Sto) (σ : L2.St) (ρ : Rho) (r : Res (List D)) (Q : Int → Int → Hp → Prop), Sta C.T ws H s → EnvOk C.T C.x ws H σ ρ → f ρ s = some r → XOk C ws H σ r →
  (∀ xs s', r = .ok xs s' → ∀ a b ws' H', Stp ws H ws' H' → Sta C.T ws' H' s' → RgOk a b → xs = rngD a (b - a).toNat → Q a b H') → te σ H Q
structure DRg (X : Cx) (C : Cn) (e : Expr) (f : M (List D)) : Prop where
  ex : ∃ te, PRg X e te ∧ EvR C te f
section
variable {X : Cx} {C : Cn} {a b e : Expr} {fa fb : M D} {fr : M (List D)} {pos p : Pos}
theorem dr_1 (ha : DE X C a fa) (hm : X.mg "range" = none) (hg : Gl X "range" := by rfl) (na : starEach [a] X.env = (false, eval a X.env) :: starEach [] X.env := by rfl) : DRg X C (.Call (.Name "range" p) [a] [] pos) (fRgA1 fa) :=
  let ⟨_, pa, ea⟩ := ha.ex
  ⟨_, prg_1 hg hm pa na, fun ws H s σ ρ r Q S N h xx q => (ea.b) S N h xx fun x s1 h v ws1 H1 t1 S1 r1 => by
    obtain ⟨z, h2, rfl⟩ := got_some h
    split at h2
    · rename_i j
      unfold rgA at h2
      split at h2
      · rename_i ok
        cases h2
        cases r1
        exact ⟨_, rfl, q _ _ rfl _ _ ws1 H1 t1 S1 (rgOk_ok ok) rfl⟩
      · cases h2
    · cases h2⟩
theorem dr_2 (ha : DE X C a fa) (hb : DE X C b fb) (hm : X.mg "range" = none) (hg : Gl X "range" := by rfl) (na : starEach [a, b] X.env = (false, eval a X.env) :: starEach [b] X.env := by rfl) (nb : starEach [b] X.env = (false, eval b X.env) :: starEach [] X.env := by rfl)
    (hp : (backTo pos (starEach [b] X.env)).any (·.1) = false := by rfl) : DRg X C (.Call (.Name "range" p) [a, b] [] pos) (fRgA2 fa fb) :=
  let ⟨_, pa, ea⟩ := ha.ex
  let ⟨_, pb, eb⟩ := hb.ex
  ⟨_, prg_2 hg hm pa pb na nb hp, fun ws H s σ ρ r Q S N h xx q => (ea.b) S N h xx fun x s1 h v ws1 H1 t1 S1 r1 => (eb.b) S1 (N.stp t1) h (xx.stp t1) fun y s2 h u ws2 H2 t2 S2 r2 => by
    obtain ⟨z, h2, rfl⟩ := got_some h
    split at h2
    · rename_i i j
      unfold rgA at h2
      split at h2
      · rename_i ok
        cases h2
        cases r1
        cases r2
        exact ⟨_, _, rfl, rfl, q _ _ rfl _ _ ws2 H2 (t1.trans t2) S2 (rgOk_ok ok) rfl⟩
      · cases h2
    · cases h2⟩
theorem evr_b {β : Type} {te : L2.St → Hp → (Int → Int → Hp → Prop) → Prop} {f : M (List D)} {k : List D → M β} {ws : Ws} {H : Hp} {s : Sto} {σ : L2.St} {ρ : Rho} {r : Res β} {Q : Int → Int → Hp → Prop} (ea : EvR C te f) (S : Sta C.T ws H s) (N : EnvOk C.T C.x ws H σ ρ) (h : bnd f k ρ s = some r) (x : XOk C ws H σ r)
    (q : ∀ xs s1, k xs ρ s1 = some r → ∀ a b ws1 H1, Stp ws H ws1 H1 → Sta C.T ws1 H1 s1 → RgOk a b → xs = rngD a (b - a).toNat → Q a b H1) : te σ H Q := by
  unfold bnd at h
  split at h
  · rename_i d s1 e
    exact ea ws H s σ ρ _ Q S N e True.intro fun d' s' hd => by cases hd; exact q d s1 h
  · rename_i e s1 he
    cases h
    exact ea ws H s σ ρ _ Q S N he x fun d' s' hd => nomatch hd
  · cases h
theorem de_tupRg (he : DRg X C e fr) (hm : X.mg "tuple" = none) (hc : X.calm = true := by rfl) (hg : Gl X "tuple" := by rfl) (na : starEach [e] X.env = (false, eval e X.env) :: starEach [] X.env := by rfl) : DE X C (.Call (.Name "tuple" p) [e] [] pos) (fRgT fr) :=
  let ⟨_, pa, ea⟩ := he.ex
  ⟨_, pe_tupRg hc hg hm pa na, fun ws H s σ ρ r Q S N h xx q => evr_b ea S N h xx fun xs s1 h a b ws1 H1 t1 S1 ok ex => by
    subst ex
    cases h
    exact ⟨ok, fun l hl => q _ _ rfl _ ws1 _ (t1.trans (S1.stp_new hl)) (S1.new hl) ⟨l, _, rfl, S1.at_new hl, reps_rg a b⟩⟩⟩
theorem de_lstRg (he : DRg X C e fr) (hm : X.mg "list" = none) (hc : X.calm = true := by rfl) (hg : Gl X "list" := by rfl) (na : starEach [e] X.env = (false, eval e X.env) :: starEach [] X.env := by rfl) : DE X C (.Call (.Name "list" p) [e] [] pos) (fRgL fr) :=
  let ⟨_, pa, ea⟩ := he.ex
  ⟨_, pe_listRg hc hg hm pa na, fun ws H s σ ρ r Q S N h xx q => evr_b ea S N h xx fun xs s1 h a b ws1 H1 t1 S1 ok ex => by
    subst ex
    cases h
    exact ⟨ok, fun l hl => q _ _ rfl _ ws1 _ (t1.trans (S1.stp_new hl)) (S1.new hl) ⟨l, _, rfl, S1.at_new hl, reps_rg a b⟩⟩⟩
theorem de_lstRgO (he : DRg X C e fr) (hm : X.mg "list" = none) (hc : X.calm = true := by rfl) (hg : Gl X "list" := by rfl) (na : starEach [e] X.env = (false, eval e X.env) :: starEach [] X.env := by rfl) : DE X C (.Call (.Name "list" p) [e] [] pos) (fRgO fr) :=
  let ⟨_, pa, ea⟩ := he.ex
  ⟨_, pe_listRg hc hg hm pa na, fun ws H s σ ρ r Q S N h xx q => evr_b ea S N h xx fun xs s1 h a b ws1 H1 t1 S1 ok ex => by
    subst ex
    cases h
    refine ⟨ok, fun l hl => ?_⟩
    have t2 : Stp ws1 H1 (ws1.add l) (upd H1 l (.lst (rgV a b))) := S1.stp_own hl
    exact q _ _ rfl _ (ws1.add l) _ (t1.trans t2) (S1.newOwn (so := .lst _) hl (reps_rg a b)) (rep_last S1)⟩
end
/-! ### defs whose objects all stay owned -/
def runA (N : Nat) (f : MS) : FM := fun s ds => match f (startD N ds) s with
  | some (.rt d s') => some (.ok d s')
  | some (.nx _ s') => some (.ok .non s')
  | some (.ex e _ s') => some (.ex e s')
  | _ => none
section
variable {P : Program} {w : World} {T : Kt} {mg : Str → Option Value} {base : Heap}
theorem fn_okA {x qual : Str} {st : Stmt} {f : Addr} {fd : FuncData} {N ps : List Str} {k : Nat} {g : MS} {m : FM} (F : Fun T.K x qual st f fd) (S : FnScope N ps (defScope st))
    (hbody : ∀ (cdv : Value) (A : Around) (outer : List Env) (s : Shared) (H : Hp) (E : XK), Room k (A.deeper (PyProof.Rows.envOfC qual (defScope st) s.heap.objs.size f cdv)) →
      Takes (cxOf (L2.CX P w) P w T.K mg base N qual (defScope st) f cdv A outer s H E) (WD E) → PassesOwn (model P w) (cxOf (L2.CX P w) P w T.K mg base N qual (defScope st) f cdv A outer s H E).A (cxOf (L2.CX P w) P w T.K mg base N qual (defScope st) f cdv A outer s H E).env (cxOf (L2.CX P w) P w T.K mg base N qual (defScope st) f cdv A outer s H E).xe →
      DSs (cxOf (L2.CX P w) P w T.K mg base N qual (defScope st) f cdv A outer s H E) ⟨T, WD E, none⟩ (defBody st) g)
    (hm : ∀ s ds r, m s ds = some r → runA N.length g s ds = some r) : FnOk P w T.K mg base (L2.CX P w) (k + 1) f fd ps (spF T ps.length m) := by
  refine F.okX S (fun vs H Q E h => h.1) (fun cdv A outer s H vs Q E hr h => ?_)
  obtain ⟨hl, ws, s0, ds, r0, S0, r, hv, hx, q⟩ := h
  obtain ⟨t, pb, eb⟩ := (hbody cdv A outer s H E hr (takes_of rfl rfl rfl rfl) (passes_of rfl)).ex
  refine ⟨t, pb, ?_⟩
  have h2 := hm _ _ _ hv
  unfold runA at h2
  split at h2
  · rename_i d1 s1 h3
    cases h2
    exact eb ws H s0 _ _ _ _ S0 (env_start r) h3 fun v ws1 H1 t1 S1 r1 => q _ _ rfl v ws1 H1 t1 S1 r1
  · rename_i ρ1 s1 h3
    cases h2
    exact eb ws H s0 _ _ _ _ S0 (env_start r) h3 fun σ1 ws1 H1 t1 S1 N1 => q _ _ rfl .non ws1 H1 t1 S1 rfl
  · rename_i e ρ1 s1 h3
    cases h2
    exact eb ws H s0 _ _ _ _ S0 (env_start r) h3 fun σ1 cls dx ws1 H1 t1 S1 N1 x1 => hx cls dx ws1 H1 t1 S1 x1
  · cases h2
end
/-- an instance is made, all that its __init__ makes stays owned -/
def makeA (c : Nat) (m : FM) : FM := fun s xs => match m (s ++ [.ins c [] []]) (.own s.length :: xs) with
  | some (.ok .non s') => some (.ok (.own s.length) s')
  | some (.ex e s') => some (.ex e s')
  | _ => none
section
variable {X : Cx} {C : Cn} {e : Expr} {es : List Expr} {fa : M (List D)} {pos p : Pos}
theorem de_makeA {x : Str} {n k : Nat} {m : FM} {fd : FuncData} {ps : List Str} {fI : Addr} (c : Nat) (tk : Takes X C.W) (Mk' : Mk X.K (C.T.ad c) fI) (IC : InsC C.T.K (C.T.ad c)) (F : FnOk X.prog X.w X.K X.mg X.base (L2.CX X.prog X.w) k fI fd ps (spF C.T (n + 1) m)) (hr : Room (k + 1) X.A) (hm : X.mg x = some (.ref (C.T.ad c))) (hb : Binds X.K fd ps [])
    (ha : DA X C (e :: es) fa) (hg : Gl X x := by rfl) (hdb : (x == ("__debug__" : Str)) = false := by decide)
    (he : starEach (e :: es) X.env = (false, eval e X.env) :: starEach es X.env := by rfl) (hpl : (backTo pos (starEach es X.env)).any (·.1) = false := by rfl) : DE X C (.Call (.Name x p) (e :: es) [] pos) (fCall n (makeA c m) fa) :=
  let ⟨_, pa, ea⟩ := ha.ex
  ⟨_, vm_pe_make Mk' F hr hg hm hb (passAt tk) pa hdb he hpl, fun ws H s σ ρ R Q S N h xx q => (ea.b) S N h xx fun xs s1 h vs ws1 H1 t1 S1 r1 => by
    split at h
    · rename_i hl
      intro y dx hy hdx hne
      unfold makeA at h
      have tA : Stp ws1 H1 ws1 (upd H1 dx (.own y)) := S1.stp_new hdx
      have SA : Sta C.T ws1 (upd H1 dx (.own y)) s1 := S1.new hdx
      have hy2 : upd H1 dx (.own y) y = none := by rw [upd_ne (Ne.symm hne)]; exact hy
      have tB : Stp ws1 (upd H1 dx (.own y)) (ws1.add y) (upd (upd H1 dx (.own y)) y (.ins (C.T.ad c) dx [])) := SA.stp_own hy2
      have SB : Sta C.T (ws1.add y) (upd (upd H1 dx (.own y)) y (.ins (C.T.ad c) dx [])) (s1 ++ [.ins c [] []]) := SA.newOwn (so := .ins c [] []) hy2 ⟨rfl, ⟨IC, fun _ z => nomatch z⟩, rfl, rfl⟩
      have tAB := tA.trans tB
      have hlen : (V.ref y :: vs).length = n + 1 := by rw [List.length_cons, ← r1.length, hl]
      have rr : Reps C.T (ws1.add y) (mask (ws1.add y) (upd (upd H1 dx (.own y)) y (.ins (C.T.ad c) dx []))) (.own s1.length :: xs) (V.ref y :: vs) := ⟨_, _, rfl, rep_last SA, r1.stp tAB⟩
      split at h
      · rename_i s' hm'
        cases h
        refine ⟨hlen, _, _, _, _, SB, rr, hm', True.intro, fun d s2 e v ws2 H2 t2 S2 r2 => ?_⟩
        cases e
        refine ⟨r2, ?_⟩
        have ro : Rep C.T ws2 (mask ws2 H2) (.own s1.length) (.ref y) := (rep_last (M := mask (ws1.add y) (upd (upd H1 dx (.own y)) y (.ins (C.T.ad c) dx []))) SA).stp t2
        exact q _ _ rfl _ ws2 H2 (t1.trans (tAB.trans t2)) S2 ro
      · rename_i e s' hm'
        cases h
        refine ⟨hlen, _, _, _, _, SB, rr, hm', ?_, fun d s2 e => nomatch e⟩
        intro cls dx' ws2 H2 t2 S2 x2
        exact (xx.stp t1) cls dx' ws2 H2 (tAB.trans t2) S2 x2
      · cases h
    · cases h⟩
end
end
end VM
set_option Elab.async false
set_option maxRecDepth 100000
set_option maxHeartbeats 4000000
set_option linter.all false
set_option autoImplicit false
/-! xs += ys, xs an owned list. -/
namespace VM
open PySem L2
noncomputable section
def fAugX (i : Nat) (f : M D) : MS := fun ρ s => match ρ[i]? with
  | some (some (.own l)) => bndS f (fun y ρ s => match lstAt s l, y with
    | some ds, .lst es => if ds.length + es.length < LIM then some (.nx (ρ.set i (some (.own l))) (s.set l (.lst (ds ++ es)))) else none
    | _, _ => none) ρ s
  | _ => none
section
variable {X : Cx} {C : Cn} {e : Expr} {fv : M D} {pos : Pos}
theorem ds_augX (i : Nat) {x : Str} {pos' : Pos} (hN : X.N.Nodup) (h : DE X C e fv) (hi : X.N[i]? = some x := by rfl) (hx : Loc X.env.scope x := by first | exact Or.inl rfl | exact Or.inr rfl)
    (hf : X.fn x = true ∨ X.env.scope.names.lookup x = some .local := by first | exact .inl rfl | exact .inr rfl | assumption) (hns : nsl C.x i := by first | exact True.intro | (show (_ : Nat) ≠ _; decide)) : DS X C (.AugAssign (.Name x pos') .Add e pos) (fAugX i fv) :=
  let ⟨_, pa, ea⟩ := h.ex
  ⟨_, ps_aug (ti := rExt2) hN hi hx pa (fun pins s σ H x y v u Q I r1 r2 h => iop_ext pins s σ H x y v u Q I r1 r2 h) hf, fun ws H s σ ρ o E S N h q => by
    unfold fAugX at h
    split at h
    · rename_i l hd
      obtain ⟨v, e1, r1⟩ := N.at_ i _ hd
      refine ⟨v, e1, (ea.st) S N h q fun y s1 h u ws1 H1 t1 S1 r2 => ?_⟩
      split at h
      · rename_i ds es hds
        split at h
        · rename_i hlt
          cases h
          have r1' := r1.stp t1
          obtain ⟨a, ha, rfl⟩ := r1'
          obtain ⟨xs, hxs, rx⟩ := S1.lst ha hds
          obtain ⟨b, ys, rfl, hb, ry⟩ := r2
          have S2 := S1.put (so := .lst (ds ++ es)) (o := .lst (xs ++ ys)) ha (rx.append ry)
          have t2 : Stp ws1 H1 ws1 (upd H1 a (.lst (xs ++ ys))) := S1.stp_put ha
          refine ⟨a, b, xs, ys, rfl, rfl, hxs, (mask_some hb).2, ?_, ?_⟩
          · rw [← rx.length, ← ry.length]
            exact Nat.le_of_lt (lim_lt hlt)
          · exact q _ ws1 _ (t1.trans t2) S2 (((N.stp t1).stp t2).set (d := .own l) ⟨a, ha, rfl⟩ hns)
        · cases h
      · cases h
    · cases h⟩
end
end
end VM
set_option Elab.async false
set_option maxRecDepth 100000
set_option maxHeartbeats 4000000
set_option linter.all false
set_option autoImplicit false
/-! A list comprehension whose list is owned; a, b, c = x, y, z. -/
namespace VM
open PySem L2
noncomputable section
def fLcO (fi : M Src) (g : D → Rho → Option Rho) (ft : M Bool) (fe : M D) (vs : List Nat) : M D := bnd fi fun z => fun ρ s => if z.1.length ≤ LIM then match lcL g ft fe z.2 (wipeD ρ vs) z.1 s with
  | some (ys, s') => some (.ok (.own s'.length) (s' ++ [.lst ys]))
  | none => none
  else none
theorem ev_lcO {C : Cn} {wi : TI} {tg : TG} {tt : TT} {te : TE} {fi : M Src} {g : D → Rho → Option Rho} {ft : M Bool} {fe : M D} {is vs : List Nat} (hi : EvI C wi fi)
    (hg : ∀ ws H σ ρ d v ρ' Q, EnvOk C.T C.x ws H σ ρ → Rep C.T ws (mask ws H) d v → g d ρ = some ρ' → (∀ σ', EnvOk C.T C.x ws H σ' ρ' → (∀ vs, (∀ i ∈ is, i ∈ vs) → L2.wipe σ' vs = L2.wipe σ vs) → Q σ' H) → tg v σ H Q)
    (hv : ∀ i ∈ is, i ∈ vs) (hvx : ∀ i ∈ vs, nsl C.x i) (ht : EvT C.in0 tt ft) (he : EvS C.in0 te fe) : EvS C (tLc wi tg tt te vs) (fLcO fi g ft fe vs) := by
  intro ws H s σ ρ R Q S N h xx q
  unfold fLcO bnd at h
  split at h
  rotate_left
  · rename_i e s1 h1
    cases h
    exact hi ws H s σ ρ _ _ S N h1 xx fun z s' e => nomatch e
  · cases h
  rename_i z s1 h1
  dsimp only at h
  split at h
  · rename_i hlim
    split at h
    · rename_i ys sE hl
      cases h
      refine hi ws H s σ ρ _ _ S N h1 True.intro fun z' s1' ez J ws1 H1 t1 S1 wk Dd hD => ?_
      cases ez
      have hwipe : ∀ σ0, L2.wipe (L2.wipe σ0 vs) vs = L2.wipe σ0 vs := by
        have gen : ∀ (us : List Nat) (σ0 : L2.St), (∀ u ∈ us, u ∈ vs) → L2.wipe (L2.wipe σ0 us) vs = L2.wipe σ0 vs := by
          intro us
          induction us with
          | nil => intro σ0 _; rfl
          | cons u us ih =>
            intro σ0 hu
            show L2.wipe ((L2.wipe σ0 us).set u none) vs = _
            rw [wipe_in (hu u List.mem_cons_self)]
            exact ih σ0 fun w hw => hu w (List.mem_cons_of_mem _ hw)
        intro σ0
        exact gen vs σ0 fun _ z => z
      -- the state within
      let In : Nat → List D → Sto → List V → Ws → Hp → Prop := fun i acc s2 xs ws2 H2 =>
        Dd ∈ ws2.hid ∧ Stp ⟨ws1.own, ws1.hid⟩ H1 ⟨ws2.own, ws2.hid⟩ H2 ∧ Sta C.T ws2 H2 s2 ∧ H2 Dd = some (.lst xs) ∧ Reps C.T ws2 (mask ws2 H2) acc xs ∧ i ≤ z.1.length ∧ acc.length ≤ i ∧
          ∃ rest, ys = acc ++ rest ∧ lcL g ft fe z.2 (wipeD ρ vs) (z.1.drop i) s2 = some (rest, sE)
      refine ⟨fun i m H2 => m = z.1.length - i ∧ ∃ acc s2 xs ws2, In i acc s2 xs ws2 H2, ⟨_, rfl, [], s1, [], ⟨ws1.own, Dd :: ws1.hid⟩, ?_⟩, ?_⟩
      · have hm : mask ⟨ws1.own, Dd :: ws1.hid⟩ (upd H1 Dd (.lst [])) = mask ws1 H1 := mask_hide hD
        have hfr := S1.fresh hD
        refine ⟨List.mem_cons_self, ⟨List.prefix_refl _, fun a z => List.mem_cons_of_mem _ z, fun a o e => by rw [hm]; exact e, fun a z => upd_ne fun e => hfr.2 (e ▸ z)⟩, ⟨S1.nd, S1.len, ?_, ?_, ?_, tabs_new S1.tab hD⟩, upd_same, rfl, Nat.zero_le _, Nat.le_refl _, ys, rfl, by rw [List.drop_zero]; exact hl⟩
        · intro a z
          rcases List.mem_cons.mp z with e | z
          · rw [e]; exact hfr.1
          · exact S1.dis a z
        · intro a z
          rcases List.mem_cons.mp z with e | z
          · rw [e]; exact ⟨_, upd_same, True.intro⟩
          · obtain ⟨o, e, hd⟩ := S1.hid a z
            exact ⟨o, by rw [upd_ne (fun (q : a = Dd) => hfr.2 (by rw [← q]; exact z))]; exact e, hd⟩
        · intro l a ds e1 e2
          obtain ⟨xs, k1, k2⟩ := S1.own l a ds e1 e2
          refine ⟨xs, by rw [upd_ne (ne_of_none k1 hD)]; exact k1, ?_⟩
          rw [hm]
          exact SoRel.mono (ws := ws1) (ws' := ⟨ws1.own, Dd :: ws1.hid⟩) (List.prefix_refl _) (fun _ _ z => z) k2
      · rintro i m H2 ⟨rfl, acc, s2, xs, ws2, hd, t2, S2, hDd, rx, hi', hacc, rest, hys, hl2⟩
        by_cases hlt : i < z.1.length
        · rw [List.drop_eq_getElem_cons hlt] at hl2
          unfold lcL at hl2
          split at hl2
          · rename_i hck
            split at hl2
            · rename_i ρ1 hg1
              obtain ⟨go, yl⟩ := wk.step i z.1[i] ws2 H2 s2 t2.q S2 hck (List.getElem?_eq_getElem hlt)
              refine .inr ⟨go, fun H5 => ∃ acc s2 xs ws2, In (i + 1) acc s2 xs ws2 H5, fun H5 h5 => ⟨_, by omega, rfl, h5⟩, fun x H3 y => ?_⟩
              obtain ⟨t3, S3, r3⟩ := yl x H3 y
              have NE : EnvOk C.T C.x ws2 H3 (L2.wipe σ vs) (wipeD ρ vs) := by
                have N1 := (N.wipe vs hvx).stp t1
                refine ⟨N1.len, fun j e hj => ?_, fun q e => ?_⟩
                · obtain ⟨v, e1, e2⟩ := N1.at_ j e hj
                  exact ⟨v, e1, (Rep.stp t2 e2).stp t3⟩
                · obtain ⟨e1, cls, e2⟩ := N1.ex q e
                  exact ⟨e1, cls, (ExRep.stp t2 e2).stp t3⟩
              refine hg ws2 H3 _ _ _ x ρ1 _ NE r3 hg1 fun σ2 N2 w2 => ⟨by rw [w2 vs hv, hwipe], ?_⟩
              split at hl2
              · rename_i s3 hft
                refine ht ws2 H3 s2 σ2 ρ1 _ _ S3 N2 hft True.intro fun d0 s0 e0 ws3 H4 t4 S4 => ?_
                cases e0
                rw [if_pos rfl]
                split at hl2
                · rename_i y' s4 hfe
                  refine he ws3 H4 s3 σ2 ρ1 _ _ S4 (N2.stp t4) hfe True.intro fun d1 s1 e1 v ws4 H6 t5 S5 r5 => ?_
                  cases e1
                  split at hl2
                  · rename_i zs s5 hl3
                    cases hl2
                    have tt := (t3.trans t4).trans t5
                    have hd4 : Dd ∈ ws4.hid := tt.hid _ hd
                    have hD4 : H6 Dd = some (.lst xs) := (tt.hk Dd hd).trans hDd
                    have hm : mask ws4 (upd H6 Dd (.lst (xs ++ [v]))) = mask ws4 H6 := by
                      funext a
                      unfold mask
                      by_cases ha : a = Dd
                      · subst ha
                        rw [if_pos (.inr hd4), if_pos (.inr hd4)]
                      · rw [upd_ne ha]
                    have hz := rx.length
                    refine ⟨xs, hD4, lim_lt (by omega), acc ++ [y'], s4, xs ++ [v], ws4, hd4, ⟨t2.pre.trans tt.pre, fun a q => tt.hid a (t2.hid a q), fun a o q => by rw [hm]; exact tt.fz a o (t2.fz a o q), fun a q => ?_⟩, ⟨S5.nd, S5.len, S5.dis, ?_, ?_, tabs_lst S5.tab hD4⟩, upd_same, ?_, hlt, ?_, zs, ?_, hl3⟩
                    · have hne : a ≠ Dd := fun e => by
                        subst e
                        obtain ⟨o, e, _⟩ := S1.hid _ q
                        rw [hD] at e
                        cases e
                      rw [upd_ne hne, tt.hk a (t2.hid a q)]
                      exact t2.hk a q
                    · intro a q
                      by_cases ha : a = Dd
                      · subst ha; exact ⟨_, upd_same, True.intro⟩
                      · rw [upd_ne ha]; exact S5.hid a q
                    · intro l a ds e1 e2
                      obtain ⟨us, k1, k2⟩ := S5.own l a ds e1 e2
                      have hne : a ≠ Dd := fun e => S5.dis _ hd4 (by rw [← e]; exact List.mem_of_getElem? e1)
                      exact ⟨us, by rw [upd_ne hne]; exact k1, by rw [hm]; exact k2⟩
                    · rw [hm]
                      exact (Reps.mono tt.pre tt.fz acc xs rx).append ⟨v, [], rfl, r5, rfl⟩
                    · rw [List.length_append, List.length_singleton]; omega
                    · rw [hys, List.append_assoc]; rfl
                  · cases hl2
                · cases hl2
              · rename_i s3 hft
                refine ht ws2 H3 s2 σ2 ρ1 _ _ S3 N2 hft True.intro fun d0 s0 e0 ws3 H4 t4 S4 => ?_
                cases e0
                rw [if_neg Bool.false_ne_true]
                have tt := t3.trans t4
                exact ⟨acc, s3, xs, ws3, tt.hid _ hd, ⟨t2.pre.trans tt.pre, fun a q => tt.hid a (t2.hid a q), fun a o q => tt.fz a o (t2.fz a o q), fun a q => (tt.hk a (t2.hid a q)).trans (t2.hk a q)⟩, S4, (tt.hk Dd hd).trans hDd, Reps.mono tt.pre tt.fz acc xs rx, hlt, by omega, rest, hys, hl2⟩
              · cases hl2
            · cases hl2
          · cases hl2
        · have e : i = z.1.length := by omega
          subst e
          rw [List.drop_length] at hl2
          unfold lcL at hl2
          split at hl2
          · rename_i hck
            cases hl2
            refine .inl ⟨wk.stop ws2 H2 _ t2.q S2 hck, ?_⟩
            -- the new list is frozen from now on
            have hdo : Dd ∉ ws2.own := S2.dis _ hd
            let ws3 : Ws := ⟨ws2.own ++ [Dd], ws2.hid.filter fun a => decide (a ≠ Dd)⟩
            have hin : ∀ a, a ∈ ws3.hid → a ∈ ws2.hid ∧ a ≠ Dd := fun a q => by
              obtain ⟨q1, q2⟩ := List.mem_filter.mp q
              exact ⟨q1, of_decide_eq_true q2⟩
            have hmono : ∀ a o, mask ws2 H2 a = some o → mask ws3 H2 a = some o := fun a o q => by
              have nt := mask_nt q
              obtain ⟨n, q⟩ := mask_some q
              refine mask_in (ws := ws3) ⟨fun w => ?_, fun w => n.2 (hin a w).1⟩ q nt
              rcases List.mem_append.mp w with w | w
              · exact n.1 w
              · exact n.2 (by rw [List.mem_singleton.mp w]; exact hd)
            have hDn : ∀ a ∈ ws1.hid, a ≠ Dd := fun a q e => by
              subst e
              obtain ⟨o, e, _⟩ := S1.hid _ q
              rw [hD] at e
              cases e
            have hp : ws2.own <+: ws3.own := List.prefix_append _ _
            refine q _ _ rfl (.ref Dd) ws3 H2 (t1.trans ⟨t2.pre.trans hp, fun a w => List.mem_filter.mpr ⟨t2.hid a w, decide_eq_true (hDn a w)⟩, fun a o w => hmono a o (t2.fz a o w), t2.hk⟩) ⟨nodup_snoc S2.nd hdo, by rw [List.length_append, List.length_append, S2.len] <;> rfl, fun a w z => ?_, fun a w => S2.hid a (hin a w).1, fun l a ds e1 e2 => ?_, S2.tab⟩ ⟨Dd, ?_, rfl⟩
            · rcases List.mem_append.mp z with z | z
              · exact S2.dis a (hin a w).1 z
              · exact (hin a w).2 (List.mem_singleton.mp z)
            · by_cases hl : l < ws2.own.length
              · rw [List.getElem?_append_left hl] at e1
                rw [List.getElem?_append_left (by rw [← S2.len]; exact hl)] at e2
                obtain ⟨us, k1, k2⟩ := S2.own l a ds e1 e2
                exact ⟨us, k1, SoRel.mono (ws := ws2) (ws' := ws3) hp hmono k2⟩
              · have hl' : l = ws2.own.length := by
                  have := (List.getElem?_eq_some_iff.mp e1).1
                  rw [List.length_append] at this
                  simp at this
                  omega
                subst hl'
                rw [List.getElem?_append_right (Nat.le_refl _)] at e1
                rw [List.getElem?_append_right (by rw [S2.len]; exact Nat.le_refl _)] at e2
                simp [S2.len] at e1 e2
                subst e1 e2
                refine ⟨.lst xs, hDd, ?_⟩
                rw [hys, List.append_nil]
                exact Reps.mono (ws := ws2) (ws' := ws3) hp hmono acc xs rx
            · show (ws2.own ++ [Dd])[_]? = some Dd
              rw [← S2.len, List.getElem?_append_right (Nat.le_refl _), Nat.sub_self]
              rfl
          · cases hl2
    · cases h
  · cases h
section
variable {X : Cx} {C : Cn} {elt tg iter : Expr} {ifs : List Expr} {scope : Scope} {own : List (Str × Nat)} {pos spos py : Pos} {fi : M Src} {g : D → Rho → Option Rho} {ft : M Bool} {fe : M D} {is : List Nat}
theorem de_lcO (hc : X.calm = true) (hN : X.N.Nodup) (hi : DI X C tg iter fi) (ok : BlkOk X.N X.env.scope scope own) (hv : ∀ i ∈ is, i ∈ own.map (·.2))
    (hg : ∀ b : Blk, DG (b.cx X scope) C.in0 tg g is) (ht : ∀ b : Blk, DTs (b.cx X scope) C.in0 ifs ft) (he : ∀ b : Blk, DE (b.cx X scope) C.in0 elt fe)
    (hvx : ∀ i ∈ own.map (·.2), nsl C.x i := by exact nsl_none)
    (hs : ∀ x, foldedSetIterable iter X.env x = pure x := by intro _; rfl) : DE X C (.ListComp elt [⟨tg, iter, ifs, 0⟩] scope pos) (fLcO fi g ft fe (own.map (·.2))) :=
  let ⟨_, pi, ei⟩ := hi.ex
  let ⟨_, pg, eg⟩ := unify_G (C := C.in0) (Y := fun b : Blk => b.cx X scope) hg
  let ⟨_, pt, et⟩ := unify_T (C := C.in0) (Y := fun b : Blk => b.cx X scope) ht
  let ⟨_, pe, ee⟩ := unify_E (C := C.in0) (Y := fun b : Blk => b.cx X scope) he
  ⟨_, pe_lc hc hN pi ok (fun s H C cl fp => pg ⟨s, H, C, cl, fp⟩) (fun s H C cl fp => pt ⟨s, H, C, cl, fp⟩) (fun s H C cl fp => pe ⟨s, H, C, cl, fp⟩) hs, ev_lcO ei eg hv hvx et ee⟩

theorem ds_setLcO (j : Nat) {y : Str} (hc : X.calm = true) (hN : X.N.Nodup) (hi : DI X C tg iter fi) (ok : BlkOk X.N X.env.scope scope own) (hv : ∀ i ∈ is, i ∈ own.map (·.2))
    (hg : ∀ b : Blk, DG (b.cx X scope) C.in0 tg g is) (ht : ∀ b : Blk, DTs (b.cx X scope) C.in0 ifs ft) (he : ∀ b : Blk, DE (b.cx X scope) C.in0 elt fe)
    (hsw : swapsWith (.ListComp elt [⟨tg, iter, ifs, 0⟩] scope pos) (some (.Name y py)) spos.line X.env = pure true)
    (hvx : ∀ i ∈ own.map (·.2), nsl C.x i := by exact nsl_none) (hns : nsl C.x j := by first | exact True.intro | (show (_ : Nat) ≠ _; decide))
    (hy : X.N[j]? = some y := by rfl) (hyl : X.env.scope.names.lookup y = some .local := by rfl)
    (hs : ∀ x, foldedSetIterable iter X.env x = pure x := by intro _; rfl) : DS X C (.Assign [.Name y py] (.ListComp elt [⟨tg, iter, ifs, 0⟩] scope pos) spos) (fAsg (fLcO fi g ft fe (own.map (·.2))) (gNm j)) :=
  let ⟨_, pi, ei⟩ := hi.ex
  let ⟨_, pg, eg⟩ := unify_G (C := C.in0) (Y := fun b : Blk => b.cx X scope) hg
  let ⟨_, pt, et⟩ := unify_T (C := C.in0) (Y := fun b : Blk => b.cx X scope) ht
  let ⟨_, pe, ee⟩ := unify_E (C := C.in0) (Y := fun b : Blk => b.cx X scope) he
  ⟨_, ps_setLc hc hN hy hyl hsw pi ok (fun s H C cl fp => pg ⟨s, H, C, cl, fp⟩) (fun s H C cl fp => pt ⟨s, H, C, cl, fp⟩) (fun s H C cl fp => pe ⟨s, H, C, cl, fp⟩) hs,
    ev_asg (is := [j]) (ev_lcO ei eg hv hvx et ee) (gok_nm hns)⟩
def fPar3 (i j l : Nat) (fa : M (List D)) : MS := bndS fa fun xs ρ s => match xs with
  | [x, y, z] => some (.nx (((ρ.set i (some x)).set j (some y)).set l (some z)) s)
  | _ => none
theorem ds_par3 (i j l : Nat) {x y z : Str} {a b c : Expr} {fa : M (List D)} {px py pz pt : Pos} {kt k2 pt2} (hc : X.calm = true) (hN : X.N.Nodup) (ha : DA X C [a, b, c] fa) (hi : X.N[i]? = some x := by rfl) (hj : X.N[j]? = some y := by rfl) (hl : X.N[l]? = some z := by rfl) (hij : i ≠ j := by decide) (hil : i ≠ l := by decide) (hjl : j ≠ l := by decide)
    (hx : X.env.scope.names.lookup x = some .local := by rfl) (hy : X.env.scope.names.lookup y = some .local := by rfl) (hz : X.env.scope.names.lookup z = some .local := by rfl)
    (hw : swappedStores [.Tuple [.Name x px, .Name y py, .Name z pz] kt pt] (.Tuple [a, b, c] k2 pt2) X.env = pure (some [x, y, z]) := by rfl)
    (hs : swapsWithSole [.Tuple [.Name x px, .Name y py, .Name z pz] kt pt] (.Tuple [a, b, c] k2 pt2) pos.line X.env = pure false := by rfl)
    (hni : nsl C.x i := by first | exact True.intro | (show (_ : Nat) ≠ _; decide)) (hnj : nsl C.x j := by first | exact True.intro | (show (_ : Nat) ≠ _; decide)) (hnl : nsl C.x l := by first | exact True.intro | (show (_ : Nat) ≠ _; decide)) :
    DS X C (.Assign [.Tuple [.Name x px, .Name y py, .Name z pz] kt pt] (.Tuple [a, b, c] k2 pt2) pos) (fPar3 i j l fa) :=
  let ⟨_, pa, ea⟩ := ha.ex
  ⟨_, ps_par3 hc hN hi hj hl hij hil hjl hx hy hz pa hw hs, fun ws H s σ ρ o E S N h q => (ea.st) S N h q fun xs s1 h vs ws1 H1 t1 S1 r1 => by
    split at h
    · cases h
      obtain ⟨v, r, rfl, k1, w, r', rfl, k2, u, r'', rfl, k3, rfl⟩ := r1
      exact ⟨v, w, u, rfl, q _ ws1 H1 t1 S1 ((((N.stp t1).set k1 hni).set k2 hnj).set k3 hnl)⟩
    · cases h⟩
end
end
end VM
set_option Elab.async false
set_option maxRecDepth 100000
set_option maxHeartbeats 4000000
set_option linter.all false
set_option autoImplicit false
/-! xs + ys, the new list owned. -/
namespace VM
open PySem L2
noncomputable section
def lsO (s : Sto) : D → Option (List D)
  | .lst ds => some ds
  | .own l => lstAt s l
  | _ => none
theorem lsO_ok {T : Kt} {ws : Ws} {H : Hp} {s : Sto} {d : D} {v : V} {ds : List D} (S : Sta T ws H s) (r : Rep T ws (mask ws H) d v) (h : lsO s d = some ds) : ∃ a xs, v = .ref a ∧ H a = some (.lst xs) ∧ Reps T ws (mask ws H) ds xs := by
  cases d <;> first | (cases h; done) | skip
  · cases h
    obtain ⟨a, xs, rfl, h1, h2⟩ := r
    exact ⟨a, xs, rfl, (mask_some h1).2, h2⟩
  · obtain ⟨a, h1, rfl⟩ := r
    obtain ⟨xs, h2, h3⟩ := S.lst h1 h
    exact ⟨a, xs, rfl, h2, h3⟩
def fCatO (fa fb : M D) : M D := bnd fa fun x => bnd fb fun y => fun _ s => match lsO s x, lsO s y with
  | some a, some b => if a.length + b.length ≤ LIM then some (.ok (.own s.length) (s ++ [.lst (a ++ b)])) else none
  | _, _ => none
section
variable {X : Cx} {C : Cn} {a b : Expr} {fa fb : M D} {pos : Pos}
theorem de_catO (ha : DE X C a fa) (hb : DE X C b fb) : DE X C (.BinOp a .Add b pos) (fCatO fa fb) :=
  let ⟨_, pa, ea⟩ := ha.ex
  let ⟨_, pb, eb⟩ := hb.ex
  ⟨_, pe_op op_cat pa pb, fun ws H s σ ρ r Q S N h xx q => (ea.b) S N h xx fun x s1 h v ws1 H1 t1 S1 r1 => (eb.b) S1 (N.stp t1) h (xx.stp t1) fun y s2 h u ws2 H2 t2 S2 r2 => by
    split at h
    · rename_i as bs e1 e2
      split at h
      · rename_i hl
        cases h
        obtain ⟨p1, xs, rfl, h1, k1⟩ := lsO_ok S2 (r1.stp t2) e1
        obtain ⟨p2, ys, rfl, h2, k2⟩ := lsO_ok S2 r2 e2
        refine ⟨p1, p2, xs, ys, rfl, rfl, h1, h2, lim_sz (by rw [← k1.length, ← k2.length]; exact hl), fun p hp => ?_⟩
        have t3 : Stp ws2 H2 (ws2.add p) (upd H2 p (.lst (xs ++ ys))) := S2.stp_own hp
        exact q _ _ rfl _ (ws2.add p) _ ((t1.trans t2).trans t3) (S2.newOwn (so := .lst _) hp (k1.append k2)) (rep_last S2)
      · cases h
    · cases h⟩
end
end
end VM
set_option Elab.async false
set_option maxRecDepth 100000
set_option maxHeartbeats 4000000
set_option linter.all false
set_option autoImplicit false
/-! sum of a tuple, too. -/
namespace VM
open PySem L2 PySem.Calls PyProof.Rows PyProof.V
noncomputable section
def rSum2 (K : PySem.W.Frag) : List V → Hp → VK → Prop := fun vs H Q => ∃ (a : Addr) (ns : List Int), vs = [V.ref a] ∧ (SqL K H a (ns.map V.int) ∨ SqT K H a (ns.map V.int)) ∧ Q (.int ns.sum) H
theorem cr_sum2 {X : Cx} (hc : X.calm = true) : CallR X (.builtin "sum") (rSum2 X.K) := by
  intro pins s σ H vs us Q I r h
  obtain ⟨a, ns, rfl, hs, q⟩ := h
  rcases hs with hs | hs
  · exact cr_sum hc pins s σ H _ us Q I r ⟨a, ns, rfl, hs, q⟩
  · obtain ⟨its, rv, hl, _⟩ := I.tuple hs
    rw [Vals.ref1 r]
    have hi := rv.ints
    obtain ⟨xs, e⟩ := hi.allInts.items
    have hn : numsOf (intItems xs).toList = ns := by rw [← e]; exact hi.numsOf
    rw [nums_intItems] at hn
    have hl2 : s.heap.IsTuple a its.toArray := hl
    rw [e] at hl2
    refine PySem.W.ktm_sumG (I.ok.hd hc) hl2 fun h' tk t' hk => ?_
    rw [preSum_eq, List.take_of_length_le (by simp), hn]
    exact ⟨.int _, H, I.kept hk, ⟨_, rfl⟩, q⟩
def sumD2 (s : Sto) : D → Option D
  | .tup ds => (intsD ds).map fun ns => .int ns.sum
  | x => sumD s x
theorem cs_sum2 {T : Kt} : CallS T (rSum2 T.K) (c1 sumD2) := fun ws H s xs z vs Q S r e q => by
  obtain ⟨x, rfl, e1⟩ := c1_some e
  obtain ⟨v, rfl, r1⟩ := reps_one r
  unfold sumD2 at e1
  split at e1
  · obtain ⟨ns, h, rfl⟩ := Option.map_eq_some_iff.mp e1
    obtain ⟨a, ys, rfl, h1, h2⟩ := r1
    have := intsD_ok h2 h
    subst this
    exact ⟨a, ns, rfl, .inr (sqT_un h1), q _ ws H (Stp.refl _ _) S rfl⟩
  · obtain ⟨ns, h, rfl⟩ := Option.map_eq_some_iff.mp e1
    obtain ⟨ds, h3, h4⟩ := Option.bind_eq_some_iff.mp h
    obtain ⟨a, ys, rfl, h1, h2⟩ := itL_ok S r1 h3
    have := intsD_ok h2 h4
    subst this
    exact ⟨a, ns, rfl, .inl h1, q _ ws H (Stp.refl _ _) S rfl⟩
end
end VM
set_option Elab.async false
set_option maxRecDepth 100000
set_option maxHeartbeats 4000000
set_option linter.all false
set_option autoImplicit false
/-! How the value functions are evaluated. -/
namespace VM
open PySem L2
noncomputable section
theorem nrf {α : Sort _} {a b : α} (h : a = b) : a = b := h
section
variable {α β : Type} {ρ : Rho} {s : Sto} {f g h fa fb fc : M D} {t u : M Bool} {d x y : D} {gg g1 g2 : G2} {i j : Int} {l n c : Nat} {ds es vs ks : List D} {ns : List Nat} {e : Exn}
@[simp] theorem bnd_ap {a : M α} {k : α → M β} : bnd a k ρ s = match a ρ s with
  | some (.ok x s1) => k x ρ s1
  | some (.ex e s1) => some (.ex e s1)
  | none => none := nrf rfl
@[simp] theorem got_ap {a : Sto → Option α} : got a ρ s = match a s with
  | some x => some (.ok x s)
  | none => none := nrf rfl
@[simp] theorem ret_ap {x : α} : ret x ρ s = some (.ok x s) := nrf rfl
@[simp] theorem fVar_ap : fVar n ρ s = match ρ[n]? with
  | some (some d) => some (.ok d s)
  | _ => none := nrf rfl
@[simp] theorem fC_ap : fC d ρ s = some (.ok d s) := nrf rfl
@[simp] theorem fOp_ap : fOp gg fa fb ρ s = bnd fa (fun x => bnd fb fun y => got fun s => gg s x y) ρ s := nrf rfl
@[simp] theorem fTru_ap : fTru f ρ s = bnd f (fun x => got fun s => truD s x) ρ s := nrf rfl
def unBl : D → Option Bool
  | .bl b => some b
  | _ => none
@[simp] theorem unBl_bl {b : Bool} : unBl (.bl b) = some b := nrf rfl
@[simp] theorem fBl_ap : fBl f ρ s = bnd f (fun x => got fun _ => unBl x) ρ s := by
  unfold fBl bnd got
  cases f ρ s with
  | none => rfl
  | some r => cases r with
    | ok x s1 => cases x <;> rfl
    | ex e s1 => rfl
@[simp] theorem fChain_ap : fChain g1 g2 fa fb fc ρ s = bnd fa (fun x => bnd fb fun y => bnd (got fun s => (g1 s x y).bind unBl) fun b => if b = true then bnd fc fun w => got fun s => g2 s y w else ret (.bl false)) ρ s := by
  unfold fChain bnd got
  cases fa ρ s with
  | none => rfl
  | some r => cases r with
    | ex e s1 => rfl
    | ok v s1 =>
      dsimp only
      cases fb ρ s1 with
      | none => rfl
      | some r2 => cases r2 with
        | ex e s1 => rfl
        | ok v2 s2 =>
          dsimp only
          cases g1 s2 v v2 with
          | none => rfl
          | some z => cases z with
            | bl b => cases b <;> rfl
            | _ => rfl
@[simp] theorem fAndT_ap : fAndT t u ρ s = bnd t (fun x => if x = true then u else ret false) ρ s := nrf rfl
@[simp] theorem fOrT_ap : fOrT t u ρ s = bnd t (fun x => if x = true then ret true else u) ρ s := nrf rfl
@[simp] theorem fNotT_ap : fNotT t ρ s = bnd t (fun x => ret (!x)) ρ s := nrf rfl
@[simp] theorem fAnd_ap : fAnd f g ρ s = bnd f (fun x => bnd (got fun s => truD s x) fun b => if b = true then g else ret x) ρ s := nrf rfl
@[simp] theorem fOr_ap : fOr f g ρ s = bnd f (fun x => bnd (got fun s => truD s x) fun b => if b = true then ret x else g) ρ s := nrf rfl
@[simp] theorem fNot_ap : fNot f ρ s = bnd f (fun x => got fun s => (truD s x).map fun b => .bl (!b)) ρ s := nrf rfl
@[simp] theorem fIf_ap : fIf t f g ρ s = bnd t (fun b => if b = true then f else g) ρ s := nrf rfl
@[simp] theorem fNeg_ap : fNeg f ρ s = bnd f (fun x => got fun _ => negD x) ρ s := nrf rfl
@[simp] theorem fIs_ap {T : TN} : fIs T f ρ s = bnd f (fun x => got fun s => (isT T s x).map .bl) ρ s := nrf rfl
@[simp] theorem fIsC_ap {tab : List (Nat × Bool)} : fIsC tab f ρ s = bnd f (fun x => got fun s => (isCl tab s x).map .bl) ρ s := nrf rfl
@[simp] theorem fNil_ap : fNil ρ s = some (.ok [] s) := nrf rfl
@[simp] theorem fCons_ap {r : M (List D)} : fCons f r ρ s = bnd f (fun x => bnd r fun xs => ret (x :: xs)) ρ s := nrf rfl
@[simp] theorem fTup_ap {r : M (List D)} : fTup r ρ s = bnd r (fun xs => got fun _ => if xs.length ≤ LIM then some (.tup xs) else none) ρ s := nrf rfl
@[simp] theorem fLst_ap {r : M (List D)} : fLst r ρ s = bnd r (fun xs => got fun _ => if xs.length ≤ LIM then some (.lst xs) else none) ρ s := nrf rfl
@[simp] theorem fOwn_ap {r : M (List D)} : fOwn r ρ s = bnd r (fun xs => fun _ s => if xs.length ≤ LIM then some (.ok (.own s.length) (s ++ [.lst xs])) else none) ρ s := nrf rfl
@[simp] theorem fCB_ap {gc : GC} {r : M (List D)} : fCB gc r ρ s = bnd r (fun xs => got fun s => gc s xs) ρ s := nrf rfl
@[simp] theorem fCBo_ap {gc : GC} {r : M (List D)} : fCBo gc r ρ s = bnd r (fun xs => fun _ s => match gc s xs with
  | some (.lst ds) => some (.ok (.own s.length) (s ++ [.lst ds]))
  | _ => none) ρ s := nrf rfl
@[simp] theorem c1_ap {q : Sto → D → Option D} : c1 q s [x] = q s x := nrf rfl
@[simp] theorem c2_ap {q : Sto → D → D → Option D} : c2 q s [x, y] = q s x y := nrf rfl
@[simp] theorem fCall_ap {m : FM} {r : M (List D)} : fCall n m r ρ s = bnd r (fun xs => fun _ s => if xs.length = n then m s xs else none) ρ s := nrf rfl
@[simp] theorem fCall0_ap {m : FM} : fCall0 m ρ s = m s [] := nrf rfl
@[simp] theorem fPart_ap : fPart f ρ s = bnd f (fun x => got fun _ => match x with
  | .int i => some (some i)
  | _ => none) ρ s := nrf rfl
@[simp] theorem fSl_ap {lo hi : M (Option Int)} : fSl f lo hi ρ s = bnd f (fun x => bnd lo fun l => bnd hi fun h => got fun s => slD s x l h) ρ s := nrf rfl
@[simp] theorem fSrc_ap : fSrc f ρ s = bnd f (fun x => got fun s => srcA s x) ρ s := nrf rfl
@[simp] theorem fRng1_ap : fRng1 f ρ s = bnd f (fun x => got fun _ => match x with
  | .int j => if smallI j = true then some (rngD 0 j.toNat, none) else none
  | _ => none) ρ s := nrf rfl
@[simp] theorem fRng2_ap : fRng2 f g ρ s = bnd f (fun x => bnd g fun y => got fun _ => match x, y with
  | .int i, .int j => if smallI i = true ∧ smallI j = true then some (rngD i (j - i).toNat, none) else none
  | _, _ => none) ρ s := nrf rfl
theorem fLc_ap {fi : M Src} {gt : D → Rho → Option Rho} {ft : M Bool} {fe : M D} {vs : List Nat} : fLc fi gt ft fe vs ρ s = bnd fi (fun z => fun ρ s => if z.1.length ≤ LIM then match lcL gt ft fe z.2 (wipeD ρ vs) z.1 s with
  | some (ys, s') => some (.ok (.lst ys) s')
  | none => none
  else none) ρ s := nrf rfl
@[simp] theorem wipeD_nil : wipeD ρ [] = ρ := nrf rfl
@[simp] theorem wipeD_cons {v : Nat} {vs : List Nat} : wipeD ρ (v :: vs) = (wipeD ρ vs).set v none := nrf rfl
/-! statements -/
@[simp] theorem bndS_ap {a : M α} {k : α → MS} : bndS a k ρ s = match a ρ s with
  | some (.ok x s1) => k x ρ s1
  | some (.ex e s1) => some (.ex e ρ s1)
  | none => none := nrf rfl
@[simp] theorem fNx_ap : fNx ρ s = some (.nx ρ s) := nrf rfl
def sq (g : MS) : Option Out → Option Out
  | some (.nx ρ s) => g ρ s
  | r => r
@[simp] theorem sq_nx {g : MS} : sq g (some (.nx ρ s)) = g ρ s := nrf rfl
@[simp] theorem sq_rt {g : MS} : sq g (some (.rt d s)) = some (.rt d s) := nrf rfl
@[simp] theorem sq_bk {g : MS} : sq g (some (.bk ρ s)) = some (.bk ρ s) := nrf rfl
@[simp] theorem sq_ct {g : MS} : sq g (some (.ct ρ s)) = some (.ct ρ s) := nrf rfl
@[simp] theorem sq_ex {g : MS} : sq g (some (.ex e ρ s)) = some (.ex e ρ s) := nrf rfl
@[simp] theorem sq_none {g : MS} : sq g none = none := nrf rfl
@[simp] theorem fSeq_ap {f g : MS} : fSeq f g ρ s = sq g (f ρ s) := nrf rfl
@[simp] theorem fRet_ap : fRet f ρ s = bndS f (fun x _ s => some (.rt x s)) ρ s := nrf rfl
@[simp] theorem fRetN_ap : fRetN ρ s = some (.rt .non s) := nrf rfl
@[simp] theorem fBk_ap : fBk ρ s = some (.bk ρ s) := nrf rfl
@[simp] theorem fCt_ap : fCt ρ s = some (.ct ρ s) := nrf rfl
@[simp] theorem fIfS_ap {f1 f2 : MS} : fIfS t f1 f2 ρ s = bndS t (fun b => if b = true then f1 else f2) ρ s := nrf rfl
@[simp] theorem fDrop_ap : fDrop f ρ s = bndS f (fun _ ρ s => some (.nx ρ s)) ρ s := nrf rfl
@[simp] theorem fAsg_ap {gt : D → Rho → Option Rho} : fAsg f gt ρ s = bndS f (fun x ρ s => (gt x ρ).map fun ρ1 => .nx ρ1 s) ρ s := nrf rfl
@[simp] theorem gNm_ap : gNm n d ρ = some (ρ.set n (some d)) := nrf rfl
@[simp] theorem gNl_ap : gNl [] ρ = some ρ := nrf rfl
@[simp] theorem gCn_ap {gt : D → Rho → Option Rho} {gs : List D → Rho → Option Rho} : gCn gt gs (d :: ds) ρ = match gt d ρ with
  | some ρ1 => gs ds ρ1
  | none => none := nrf rfl
@[simp] theorem gTp_ap {gs : List D → Rho → Option Rho} : gTp n gs (.tup ds) ρ = if ds.length = n then gs ds ρ else none := nrf rfl
@[simp] theorem fPar_ap {i j : Nat} {r : M (List D)} : fPar i j r ρ s = bndS r (fun xs ρ s => match xs with
  | [x, y] => some (.nx ((ρ.set i (some x)).set j (some y)) s)
  | _ => none) ρ s := nrf rfl
@[simp] theorem fAug_ap : fAug n gg f ρ s = match ρ[n]? with
  | some (some x) => bndS f (fun y ρ s => (gg s x y).map fun z => .nx (ρ.set n (some z)) s) ρ s
  | _ => none := nrf rfl
@[simp] theorem fSub_ap : fSub f g h ρ s = bndS f (fun v => bndS g fun o => bndS h fun i ρ s => (putD s o i v).map fun s1 => .nx ρ s1) ρ s := nrf rfl
@[simp] theorem fSubD_ap : fSubD f g h ρ s = bndS f (fun v => bndS g fun o => bndS h fun i ρ s => (dputD s o i v).map fun s1 => .nx ρ s1) ρ s := nrf rfl
@[simp] theorem fOL_ap : fOL f ρ s = bnd f (fun x => got fun s => if isOL s x = true then some x else none) ρ s := nrf rfl
@[simp] theorem fApp_ap : fApp f g ρ s = bnd f (fun o => bnd g fun v => fun _ s => (appD s o v).map fun s1 => .ok .non s1) ρ s := nrf rfl
@[simp] theorem fFor_ap {fi : M Src} {gt : D → Rho → Option Rho} {fb : MS} : fFor fi gt fb ρ s = bndS fi (fun z => forL gt fb z.2 z.1) ρ s := nrf rfl
@[simp] theorem fRaise_ap : fRaise c f ρ s = bndS f (fun x ρ s => some (.ex ⟨c, x⟩ ρ s)) ρ s := nrf rfl
def tryA (h : Hd) : Option Out → Option Out
  | some (.ex e ρ1 s1) => h e ρ1 s1
  | o => o
@[simp] theorem tryA_ex {h : Hd} : tryA h (some (.ex e ρ s)) = h e ρ s := nrf rfl
@[simp] theorem tryA_nx {h : Hd} : tryA h (some (.nx ρ s)) = some (.nx ρ s) := nrf rfl
@[simp] theorem tryA_rt {h : Hd} : tryA h (some (.rt d s)) = some (.rt d s) := nrf rfl
@[simp] theorem tryA_bk {h : Hd} : tryA h (some (.bk ρ s)) = some (.bk ρ s) := nrf rfl
@[simp] theorem tryA_ct {h : Hd} : tryA h (some (.ct ρ s)) = some (.ct ρ s) := nrf rfl
@[simp] theorem fTry_ap {fb : MS} {h : Hd} : fTry fb h ρ s = tryA h (fb ρ s) := nrf rfl
@[simp] theorem hEnd_ap : hEnd e ρ s = some (.ex e ρ s) := nrf rfl
@[simp] theorem hNo_ap {tab : List (Nat × Bool)} {q : Exn → MS} {r : Hd} : hNo tab q r e ρ s = match tab.lookup e.c with
  | some true => match q e ρ s with
    | some (.ex _ _ _) => none
    | o => o
  | some false => r e ρ s
  | none => none := nrf rfl
@[simp] theorem hAs_ap {i : Nat} {tab : List (Nat × Bool)} {q : Exn → MS} {r : Hd} : hAs i tab q r e ρ s = match tab.lookup e.c with
  | some true => if i < ρ.length then match q e (ρ.set i none) s with
    | some (.nx ρ1 s1) => some (.nx (ρ1.set i none) s1)
    | some (.bk ρ1 s1) => some (.bk (ρ1.set i none) s1)
    | some (.ct ρ1 s1) => some (.ct (ρ1.set i none) s1)
    | some (.rt d s1) => some (.rt d s1)
    | _ => none
    else none
  | some false => r e ρ s
  | none => none := nrf rfl
theorem fWhile_ap {fb : MS} : fWhile t fb (n + 1) ρ s = match t ρ s with
    | some (.ok true s1) => match fb ρ s1 with
      | some (.nx ρ2 s2) => fWhile t fb n ρ2 s2
      | some (.ct ρ2 s2) => fWhile t fb n ρ2 s2
      | some (.bk ρ2 s2) => some (.nx ρ2 s2)
      | some (.rt d s2) => some (.rt d s2)
      | some (.ex e ρ2 s2) => some (.ex e ρ2 s2)
      | none => none
    | some (.ok false s1) => some (.nx ρ s1)
    | some (.ex e s1) => some (.ex e ρ s1)
    | none => none := nrf rfl
theorem forL_cons {gt : D → Rho → Option Rho} {fb : MS} {ck : Option (Nat × List D)} : forL gt fb ck (d :: ds) ρ s = if chk ck s = true then match gt d ρ with
    | some ρ1 => match fb ρ1 s with
      | some (.nx ρ2 s2) => forL gt fb ck ds ρ2 s2
      | some (.ct ρ2 s2) => forL gt fb ck ds ρ2 s2
      | some (.bk ρ2 s2) => some (.nx ρ2 s2)
      | some (.rt d s2) => some (.rt d s2)
      | some (.ex e ρ2 s2) => some (.ex e ρ2 s2)
      | none => none
    | none => none
    else none := nrf rfl
theorem forL_nil {gt : D → Rho → Option Rho} {fb : MS} {ck : Option (Nat × List D)} : forL gt fb ck [] ρ s = if chk ck s = true then some (.nx ρ s) else none := nrf rfl
theorem lcL_cons {gt : D → Rho → Option Rho} {ft : M Bool} {fe : M D} {ck : Option (Nat × List D)} : lcL gt ft fe ck ρ (d :: ds) s = if chk ck s = true then match gt d ρ with
    | some ρ1 => match ft ρ1 s with
      | some (.ok true s1) => match fe ρ1 s1 with
        | some (.ok y s2) => match lcL gt ft fe ck ρ ds s2 with
          | some (ys, s3) => some (y :: ys, s3)
          | none => none
        | _ => none
      | some (.ok false s1) => lcL gt ft fe ck ρ ds s1
      | _ => none
    | none => none
    else none := nrf rfl
theorem lcL_nil {gt : D → Rho → Option Rho} {ft : M Bool} {fe : M D} {ck : Option (Nat × List D)} : lcL gt ft fe ck ρ [] s = if chk ck s = true then some ([], s) else none := nrf rfl
theorem clL_cons {γ : Type} {gt : D → Rho → Option Rho} {ft : M Bool} {bd : Rho → γ → Sto → Option (γ × Sto)} {ck : Option (Nat × List D)} {b : γ} : clL gt ft bd ck ρ (d :: ds) b s = if chk ck s = true then match gt d ρ with
      | some ρ1 => match ft ρ1 s with
        | some (.ok true s1) => match bd ρ1 b s1 with
          | some (b2, s2) => clL gt ft bd ck ρ ds b2 s2
          | none => none
        | some (.ok false s1) => clL gt ft bd ck ρ ds b s1
        | _ => none
      | none => none
    else none := nrf rfl
theorem clL_nil {γ : Type} {gt : D → Rho → Option Rho} {ft : M Bool} {bd : Rho → γ → Sto → Option (γ × Sto)} {ck : Option (Nat × List D)} {b : γ} : clL gt ft bd ck ρ [] b s = if chk ck s = true then some (b, s) else none := nrf rfl
@[simp] theorem chk_none : chk none s = true := nrf rfl
/-! instances -/
@[simp] theorem fFld_ap : fFld n f ρ s = bnd f (fun x => got fun s => (insD s x).bind fun q => getN n q.2.1 q.2.2) ρ s := nrf rfl
@[simp] theorem fSetF_ap {fo fv : M D} : fSetF c n fo fv ρ s = bndS fv (fun v => bndS fo fun o ρ s => (setF c s o n v).map fun s1 => .nx ρ s1) ρ s := nrf rfl
@[simp] theorem fCl_ap : fCl c f ρ s = bnd f (fun x => got fun s => (insD s x).bind fun q => if q.1 = c then some x else none) ρ s := by
  unfold fCl bnd got
  cases f ρ s with
  | none => rfl
  | some r => cases r with
    | ex e s1 => rfl
    | ok x s1 =>
      dsimp only
      cases insD s1 x with
      | none => rfl
      | some q => rfl
@[simp] theorem fMeth_ap {m : FM} {fo : M D} {r : M (List D)} : fMeth c n m fo r ρ s = bnd (fCl c fo) (fun o => bnd r fun xs => fun _ s => if xs.length = n then m s (o :: xs) else none) ρ s := nrf rfl
@[simp] theorem fMeth0_ap {m : FM} {fo : M D} : fMeth0 c m fo ρ s = bnd (fCl c fo) (fun o => fun _ s => m s [o]) ρ s := nrf rfl
@[simp] theorem insD_ins : insD s (.ins c ns vs) = some (c, ns, vs) := nrf rfl
def insO : Option SO → Option (Nat × List Nat × List D)
  | some (.ins c ns vs) => some (c, ns, vs)
  | _ => none
@[simp] theorem insO_ins : insO (some (.ins c ns vs)) = some (c, ns, vs) := nrf rfl
@[simp] theorem insD_own : insD s (.own l) = insO s[l]? := by
  show (match s[l]? with
    | some (.ins c ns vs) => some (c, ns, vs)
    | _ => none) = _
  generalize s[l]? = o
  cases o with
  | none => rfl
  | some o => cases o <;> rfl
@[simp] theorem getN_same : getN n (n :: ns) (d :: ds) = some d := by simp [getN]
theorem getN_cons {m : Nat} : getN n (m :: ns) (d :: ds) = if m = n then some d else getN n ns ds := nrf rfl
@[simp] theorem getN_lit {a b : Nat} : getN (no_index (OfNat.ofNat a)) ((no_index (OfNat.ofNat b)) :: ns) (d :: ds) = if b = a then some d else getN (no_index (OfNat.ofNat a)) ns ds := nrf rfl
theorem putN_cons {m : Nat} : putN n d (m :: ns) (x :: ds) = if m = n then (m :: ns, d :: ds) else ((m :: (putN n d ns ds).1), (x :: (putN n d ns ds).2)) := nrf rfl
theorem putN_nil : putN n d [] [] = ([n], [d]) := nrf rfl
theorem setF_own {v : D} : setF c s (.own l) n v = match s[l]? with
    | some (.ins c' ns vs) => if c' = c ∧ ns.length < 900 then some (s.set l (.ins c' (putN n v ns vs).1 (putN n v ns vs).2)) else none
    | _ => none := nrf rfl
@[simp] theorem fOpM_ap {q : Sto → D → D → Option (D × Sto)} : fOpM q fa fb ρ s = bnd fa (fun x => bnd fb fun y => fun _ s => (q s x y).map fun z => .ok z.1 z.2) ρ s := nrf rfl
theorem eqI_ap {neg : Bool} {m : FM} : eqI neg c m s x y = match insD s x, insD s y with
  | some (c1, _, _), some (c2, _, _) => if c1 = c ∧ c2 = c then match m s [x, y] with
    | some (.ok (.bl b) s') => some (.bl (b != neg), s')
    | _ => none
    else none
  | _, _ => none := nrf rfl
/-! values -/
@[simp] theorem truD_bl {b : Bool} : truD s (.bl b) = some b := nrf rfl
@[simp] theorem truD_int : truD s (.int i) = some (i != 0) := nrf rfl
@[simp] theorem truD_non : truD s .non = some false := nrf rfl
@[simp] theorem truD_lst : truD s (.lst ds) = some (!ds.isEmpty) := nrf rfl
@[simp] theorem truD_tup : truD s (.tup ds) = some (!ds.isEmpty) := nrf rfl
@[simp] theorem subD_int : subD s (.int i) (.int j) = some (.int (i - j)) := nrf rfl
@[simp] theorem andD_int : andD s (.int i) (.int j) = some (.int (Builtin.bitAnd i j)) := nrf rfl
@[simp] theorem orD_int : orD s (.int i) (.int j) = some (.int (Builtin.bitOr i j)) := nrf rfl
@[simp] theorem xorD_int : xorD s (.int i) (.int j) = some (.int (Builtin.bitXor i j)) := nrf rfl
@[simp] theorem ltD_int : ltD s (.int i) (.int j) = some (.bl (decide (i < j))) := nrf rfl
@[simp] theorem leD_int : leD s (.int i) (.int j) = some (.bl (decide (i ≤ j))) := nrf rfl
@[simp] theorem gtD_int : gtD s (.int i) (.int j) = some (.bl (decide (j < i))) := nrf rfl
@[simp] theorem geD_int : geD s (.int i) (.int j) = some (.bl (decide (j ≤ i))) := nrf rfl
@[simp] theorem i2_int {q : Int → Int → Option D} : i2 q s (.int i) (.int j) = q i j := nrf rfl
@[simp] theorem addD_int : addD s (.int i) (.int j) = some (.int (i + j)) := nrf rfl
@[simp] theorem addD_str {a b : Str} : addD s (.str a) (.str b) = if a.length + b.length ≤ LIM then some (.str (a ++ b)) else none := nrf rfl
@[simp] theorem addI_int : addI s (.int i) (.int j) = some (.int (i + j)) := nrf rfl
@[simp] theorem addD_tup : addD s (.tup ds) (.tup es) = if ds.length + es.length ≤ LIM then some (.tup (ds ++ es)) else none := nrf rfl
@[simp] theorem addD_lst : addD s (.lst ds) (.lst es) = if ds.length + es.length ≤ LIM then some (.lst (ds ++ es)) else none := nrf rfl
@[simp] theorem mulD_int : mulD s (.int i) (.int j) = mulI i j := nrf rfl
@[simp] theorem mulD_lst : mulD s (.lst ds) (.int i) = if smallI i = true ∧ ds.length * i.toNat ≤ LIM then some (.lst (List.replicate i.toNat ds).flatten) else none := nrf rfl
@[simp] theorem mulU_int : mulU s (.int i) (.int j) = mulI i j := by
  unfold mulU
  rw [mulD_int, show mulT s (.int i) (.int j) = none from rfl, Option.or_none]
@[simp] theorem mulU_lst : mulU s (.lst ds) (.int i) = if smallI i = true ∧ ds.length * i.toNat ≤ LIM then some (.lst (List.replicate i.toNat ds).flatten) else none := by
  unfold mulU
  rw [mulD_lst, show mulT s (.lst ds) (.int i) = none from rfl, Option.or_none]
@[simp] theorem mulU_tup : mulU s (.tup ds) (.int i) = if -1000 ≤ i ∧ i ≤ 1000 ∧ ds.length ≤ 1000 then some (.tup (List.replicate i.toNat ds).flatten) else none := by
  unfold mulU
  rw [show mulD s (.tup ds) (.int i) = none from rfl, Option.none_or]
  exact nrf rfl
@[simp] theorem negD_int : negD (.int i) = some (.int (-i)) := nrf rfl
@[simp] theorem isN_non : isN s x .non = some (.bl (isNone x)) := nrf rfl
@[simp] theorem isNN_non : isNN s x .non = some (.bl (!isNone x)) := nrf rfl
@[simp] theorem isNone_non : isNone .non = true := nrf rfl
@[simp] theorem isNone_int : isNone (.int i) = false := nrf rfl
@[simp] theorem isNone_bl {b : Bool} : isNone (.bl b) = false := nrf rfl
@[simp] theorem isNone_str {b : Str} : isNone (.str b) = false := nrf rfl
@[simp] theorem isNone_tup : isNone (.tup ds) = false := nrf rfl
@[simp] theorem isNone_lst : isNone (.lst ds) = false := nrf rfl
@[simp] theorem isNone_lck : isNone (.lck ds) = false := nrf rfl
@[simp] theorem isNone_own : isNone (.own l) = false := nrf rfl
@[simp] theorem isNone_ins : isNone (.ins c ns ds) = false := nrf rfl
/-- the list of an owned object -/
def lstO : Option SO → Option (List D)
  | some (.lst ds) => some ds
  | _ => none
@[simp] theorem lstO_lst : lstO (some (.lst ds)) = some ds := nrf rfl
theorem lstAt_eq : lstAt s l = lstO s[l]? := by
  unfold lstAt
  cases s[l]? with
  | none => rfl
  | some o => cases o <;> rfl
@[simp] theorem ixD_own : ixD s (.own l) (.int i) = (lstO s[l]?).bind fun ds => atI ds i := by rw [← lstAt_eq]; exact nrf rfl
@[simp] theorem ixD_lst : ixD s (.lst ds) (.int i) = atI ds i := nrf rfl
@[simp] theorem ixD_lck : ixD s (.lck ds) (.int i) = atI ds i := nrf rfl
@[simp] theorem ixD_tup : ixD s (.tup ds) (.int i) = atI ds i := nrf rfl
@[simp] theorem lenD_lst : lenD s (.lst ds) = some (.int ds.length) := nrf rfl
@[simp] theorem lenD_lck : lenD s (.lck ds) = some (.int ds.length) := nrf rfl
@[simp] theorem lenD_tup : lenD s (.tup ds) = some (.int ds.length) := nrf rfl
@[simp] theorem lenD_own : lenD s (.own l) = (lstO s[l]?).map fun ds => .int ds.length := by rw [← lstAt_eq]; exact nrf rfl
@[simp] theorem tupleD_lst : tupleD s (.lst ds) = some (.tup ds) := nrf rfl
@[simp] theorem tupleD_tup : tupleD s (.tup ds) = some (.tup ds) := nrf rfl
@[simp] theorem tupleD_own : tupleD s (.own l) = (lstO s[l]?).map .tup := by rw [← lstAt_eq]; exact nrf rfl
@[simp] theorem listD_lst : listD s (.lst ds) = some (.lst ds) := nrf rfl
@[simp] theorem listD_lck : listD s (.lck ds) = some (.lst ds) := nrf rfl
@[simp] theorem listD_tup : listD s (.tup ds) = some (.lst ds) := nrf rfl
@[simp] theorem listD_own : listD s (.own l) = (lstO s[l]?).map .lst := by rw [← lstAt_eq]; exact nrf rfl
@[simp] theorem absD_int : absD s (.int i) = some (.int (if i < 0 then -i else i)) := nrf rfl
@[simp] theorem intD_int : intD s (.int i) = some (.int i) := nrf rfl
@[simp] theorem intD_bl {b : Bool} : intD s (.bl b) = some (.int (if b then 1 else 0)) := nrf rfl
@[simp] theorem max2D_int : max2D s (.int i) (.int j) = some (.int (if j > i then j else i)) := nrf rfl
@[simp] theorem min2D_int : min2D s (.int i) (.int j) = some (.int (if j < i then j else i)) := nrf rfl
@[simp] theorem strD_int : strD s (.int i) = if strI i = true then some (.str (istr i)) else none := nrf rfl
@[simp] theorem slD_tup {lo hi : Option Int} : slD s (.tup ds) lo hi = some (.tup (cutD ds lo hi)) := nrf rfl
@[simp] theorem slD_lst {lo hi : Option Int} : slD s (.lst ds) lo hi = some (.lst (cutD ds lo hi)) := nrf rfl
@[simp] theorem slD_own {lo hi : Option Int} : slD s (.own l) lo hi = (lstO s[l]?).map fun ds => .lst (cutD ds lo hi) := by rw [← lstAt_eq]; exact nrf rfl
@[simp] theorem srcA_lst : srcA s (.lst ds) = some (ds, none) := nrf rfl
@[simp] theorem srcA_tup : srcA s (.tup ds) = some (ds, none) := nrf rfl
@[simp] theorem srcA_lck : srcA s (.lck ds) = some (ds, none) := nrf rfl
@[simp] theorem srcA_own : srcA s (.own l) = (lstO s[l]?).map fun ds => (ds, some (l, ds)) := by rw [← lstAt_eq]; exact nrf rfl
theorem putD_own {v : D} : putD s (.own l) (.int i) v = match lstO s[l]? with
    | some ds => match ixN ds.length i with
      | some j => some (s.set l (.lst (ds.set j v)))
      | none => none
    | none => none := by rw [← lstAt_eq]; exact nrf rfl
@[simp] theorem isOL_own : isOL s (.own l) = (lstO s[l]?).isSome := by rw [← lstAt_eq]; exact nrf rfl
theorem appD_own {v : D} : appD s (.own l) v = match lstO s[l]? with
    | some ds => if ds.length < LIM then some (s.set l (.lst (ds ++ [v]))) else none
    | none => none := by rw [← lstAt_eq]; exact nrf rfl
@[simp] theorem eqD_int : eqD s (.int i) (.int j) = some (.bl (decide (i = j))) := nrf rfl
@[simp] theorem eqD_bl {a b : Bool} : eqD s (.bl a) (.bl b) = some (.bl (decide (a = b))) := nrf rfl
@[simp] theorem eqD_str {a b : Str} : eqD s (.str a) (.str b) = some (.bl (decide (a = b))) := nrf rfl
@[simp] theorem neD_int : neD s (.int i) (.int j) = some (.bl (!decide (i = j))) := nrf rfl
@[simp] theorem neD_bl {a b : Bool} : neD s (.bl a) (.bl b) = some (.bl (!decide (a = b))) := nrf rfl
@[simp] theorem neD_str {a b : Str} : neD s (.str a) (.str b) = some (.bl (!decide (a = b))) := nrf rfl
/-! kinds -/
@[simp] theorem isT_non {T : TN} : isT T s .non = some (isN' T "NoneType") := nrf rfl
@[simp] theorem isT_bl {T : TN} {b : Bool} : isT T s (.bl b) = some (isN' T "bool") := nrf rfl
@[simp] theorem isT_int {T : TN} : isT T s (.int i) = some (isN' T "int") := nrf rfl
@[simp] theorem isT_str {T : TN} {b : Str} : isT T s (.str b) = some (isN' T "str") := nrf rfl
@[simp] theorem isT_lst {T : TN} : isT T s (.lst ds) = some (isN' T "list") := nrf rfl
@[simp] theorem isT_lck {T : TN} : isT T s (.lck ds) = some (isN' T "list") := nrf rfl
@[simp] theorem isT_tup {T : TN} : isT T s (.tup ds) = some (isN' T "tuple") := nrf rfl
@[simp] theorem isT_dct {T : TN} {b : Bool} : isT T s (.dct b ks vs) = some (isN' T "dict") := nrf rfl
@[simp] theorem isT_ins {T : TN} : isT T s (.ins c ns ds) = some false := nrf rfl
def tyO : Option SO → Option String
  | some (.lst _) => some "list"
  | some (.dct _ _ _) => some "dict"
  | _ => none
def isTO (T : TN) : Option SO → Option Bool
  | some (.lst _) => some (isN' T "list")
  | some (.dct _ _ _) => some (isN' T "dict")
  | some (.ins _ _ _) => some false
  | _ => none
@[simp] theorem isTO_lst {T : TN} : isTO T (some (.lst ds)) = some (isN' T "list") := nrf rfl
@[simp] theorem isTO_dct {T : TN} {b : Bool} : isTO T (some (.dct b ks vs)) = some (isN' T "dict") := nrf rfl
@[simp] theorem isTO_ins {T : TN} : isTO T (some (.ins c ns vs)) = some false := nrf rfl
@[simp] theorem isT_own {T : TN} : isT T s (.own l) = isTO T s[l]? := by
  have h1 : tyD s (.own l) = tyO s[l]? := by
    show (match s[l]? with
      | some (.lst _) => some "list"
      | some (.dct _ _ _) => some "dict"
      | _ => none) = _
    generalize s[l]? = o
    cases o with
    | none => rfl
    | some o => cases o <;> rfl
  have h2 : clD s (.own l) = (insO s[l]?).map (·.1) := by
    show (match s[l]? with
      | some (.ins c _ _) => some c
      | _ => none) = _
    generalize s[l]? = o
    cases o with
    | none => rfl
    | some o => cases o <;> rfl
  unfold isT
  rw [h1, h2]
  generalize s[l]? = o
  cases o with
  | none => rfl
  | some o => cases o <;> rfl
@[simp] theorem isCl_ins {tab : List (Nat × Bool)} : isCl tab s (.ins c ns ds) = tab.lookup c := nrf rfl
@[simp] theorem isCl_non {tab : List (Nat × Bool)} : isCl tab s .non = some false := nrf rfl
@[simp] theorem isCl_int {tab : List (Nat × Bool)} : isCl tab s (.int i) = some false := nrf rfl
@[simp] theorem isCl_str {tab : List (Nat × Bool)} {a : Str} : isCl tab s (.str a) = some false := nrf rfl
@[simp] theorem isCl_tup {tab : List (Nat × Bool)} : isCl tab s (.tup ds) = some false := nrf rfl
@[simp] theorem isCl_lst {tab : List (Nat × Bool)} : isCl tab s (.lst ds) = some false := nrf rfl
section

@[simp] theorem k_in : isN' .int "NoneType" = false := nrf (by decide)
@[simp] theorem k_ib : isN' .int "bool" = true := nrf (by decide)
@[simp] theorem k_ii : isN' .int "int" = true := nrf (by decide)
@[simp] theorem k_is' : isN' .int "str" = false := nrf (by decide)
@[simp] theorem k_il : isN' .int "list" = false := nrf (by decide)
@[simp] theorem k_it : isN' .int "tuple" = false := nrf (by decide)
@[simp] theorem k_id : isN' .int "dict" = false := nrf (by decide)
@[simp] theorem k_bn : isN' .bool "NoneType" = false := nrf (by decide)
@[simp] theorem k_bb : isN' .bool "bool" = true := nrf (by decide)
@[simp] theorem k_bi : isN' .bool "int" = false := nrf (by decide)
@[simp] theorem k_bs : isN' .bool "str" = false := nrf (by decide)
@[simp] theorem k_bl : isN' .bool "list" = false := nrf (by decide)
@[simp] theorem k_bt : isN' .bool "tuple" = false := nrf (by decide)
@[simp] theorem k_bd : isN' .bool "dict" = false := nrf (by decide)
@[simp] theorem k_sn : isN' .str "NoneType" = false := nrf (by decide)
@[simp] theorem k_sb : isN' .str "bool" = false := nrf (by decide)
@[simp] theorem k_si : isN' .str "int" = false := nrf (by decide)
@[simp] theorem k_ss : isN' .str "str" = true := nrf (by decide)
@[simp] theorem k_sl : isN' .str "list" = false := nrf (by decide)
@[simp] theorem k_st : isN' .str "tuple" = false := nrf (by decide)
@[simp] theorem k_sd : isN' .str "dict" = false := nrf (by decide)
@[simp] theorem k_ln : isN' .list "NoneType" = false := nrf (by decide)
@[simp] theorem k_lb : isN' .list "bool" = false := nrf (by decide)
@[simp] theorem k_li : isN' .list "int" = false := nrf (by decide)
@[simp] theorem k_ls : isN' .list "str" = false := nrf (by decide)
@[simp] theorem k_ll : isN' .list "list" = true := nrf (by decide)
@[simp] theorem k_lt : isN' .list "tuple" = false := nrf (by decide)
@[simp] theorem k_ld : isN' .list "dict" = false := nrf (by decide)
@[simp] theorem k_tn : isN' .tuple "NoneType" = false := nrf (by decide)
@[simp] theorem k_tb : isN' .tuple "bool" = false := nrf (by decide)
@[simp] theorem k_ti : isN' .tuple "int" = false := nrf (by decide)
@[simp] theorem k_ts : isN' .tuple "str" = false := nrf (by decide)
@[simp] theorem k_tl : isN' .tuple "list" = false := nrf (by decide)
@[simp] theorem k_tt : isN' .tuple "tuple" = true := nrf (by decide)
@[simp] theorem k_td : isN' .tuple "dict" = false := nrf (by decide)
end
/-! items at a place -/
theorem ixN_nat (n k : Nat) : ixN n (k : Int) = if k < n then some k else none := by
  unfold ixN
  rw [if_pos (by omega)]
  by_cases h : k < n
  · rw [if_pos (by omega), if_pos h]; simp
  · rw [if_neg (by omega), if_neg h]
@[simp] theorem ixN_lit (n k : Nat) : ixN n (no_index (OfNat.ofNat k) : Int) = if k < n then some k else none := ixN_nat n k
theorem atI_nat' {α : Type} (xs : List α) (k : Nat) : atI xs (k : Int) = xs[k]? := by
  unfold atI
  rw [ixN_nat]
  by_cases h : k < xs.length
  · rw [if_pos h]; rfl
  · rw [if_neg h, List.getElem?_eq_none (by omega)]; rfl
@[simp] theorem atI_lit' {α : Type} (xs : List α) (k : Nat) : atI xs (no_index (OfNat.ofNat k) : Int) = xs[k]? := atI_nat' xs k
theorem atI_pos {α : Type} (xs : List α) {i : Int} (h : 0 ≤ i) : atI xs i = xs[i.toNat]? := by
  have e : ((i.toNat : Nat) : Int) = i := by omega
  rw [← atI_nat', e]
end
/-! ### loops of a plain kind, in one step -/
section
variable {ρ : Rho} {s : Sto} {gt : D → Rho → Option Rho} {ft : M Bool} {fe : M D} {fb : MS} {lo : Int} {n : Nat} {ds : List D}
@[simp] theorem rngD_length : (rngD lo n).length = n := by
  unfold rngD
  rw [List.length_map, List.length_range]
theorem rngD_zero : rngD lo 0 = [] := rfl
theorem rngD_succ : rngD lo (n + 1) = .int lo :: rngD (lo + 1) n := by
  unfold rngD
  rw [List.range_succ_eq_map, List.map_cons, List.map_map]
  congr 1
  · simp
  · apply List.map_congr_left
    intro i _
    show D.int (lo + ((i + 1 : Nat) : Int)) = D.int (lo + 1 + (i : Int))
    congr 1
    omega
theorem mem_rngD {d : D} (h : d ∈ rngD lo n) : ∃ i : Nat, i < n ∧ d = .int (lo + (i : Int)) := by
  unfold rngD at h
  obtain ⟨i, hi, e⟩ := List.mem_map.mp h
  exact ⟨i, List.mem_range.mp hi, e.symm⟩
/-- a comprehension with a test: which items, what is made of each -/
theorem lcL_fm {p : D → Bool} {F : D → D} : ∀ {ds : List D}, (∀ d ∈ ds, ∃ ρ1, gt d ρ = some ρ1 ∧ ft ρ1 s = some (.ok (p d) s) ∧ (p d = true → fe ρ1 s = some (.ok (F d) s))) → lcL gt ft fe none ρ ds s = some ((ds.filter p).map F, s)
  | [], _ => by rw [lcL_nil, chk_none, if_pos rfl]; rfl
  | d :: ds, h => by
    obtain ⟨ρ1, h1, h2, h3⟩ := h d List.mem_cons_self
    rw [lcL_cons, chk_none, if_pos rfl, h1]
    have ih := lcL_fm fun e he => h e (List.mem_cons_of_mem _ he)
    cases hp : p d with
    | true => simp only [h2, hp, h3 hp, ih, List.filter_cons_of_pos hp, List.map_cons]
    | false => simp only [h2, hp, ih, List.filter_cons_of_neg (show ¬ p d = true by rw [hp]; decide)]
theorem lcL_none (h : ∀ d ∈ ds, ∃ ρ1, gt d ρ = some ρ1 ∧ ft ρ1 s = some (.ok false s)) : lcL gt ft fe none ρ ds s = some ([], s) := by
  rw [lcL_fm (p := fun _ => false) (F := id) fun d hd => by obtain ⟨ρ1, h1, h2⟩ := h d hd; exact ⟨ρ1, h1, h2, fun z => nomatch z⟩]
  rw [List.filter_eq_nil_iff.mpr fun _ _ z => by cases z]
  rfl
theorem lcL_map {F : D → D} (h : ∀ d ∈ ds, ∃ ρ1, gt d ρ = some ρ1 ∧ ft ρ1 s = some (.ok true s) ∧ fe ρ1 s = some (.ok (F d) s)) : lcL gt ft fe none ρ ds s = some (ds.map F, s) := by
  rw [lcL_fm (p := fun _ => true) (F := F) fun d hd => by obtain ⟨ρ1, h1, h2, h3⟩ := h d hd; exact ⟨ρ1, h1, h2, fun _ => h3⟩]
  rw [List.filter_eq_self.mpr fun _ _ => rfl]
theorem rng_map {β : Type} (F : Int → β) (lo : Int) (n : Nat) (F' : D → β) (h : ∀ i, F' (.int i) = F i) : (rngD lo n).map F' = (List.range n).map fun i : Nat => F (lo + (i : Int)) := by
  unfold rngD
  rw [List.map_map]
  exact List.map_congr_left fun i _ => h _
theorem lcL_rng {F : Nat → D} (h : ∀ i, i < n → ∃ ρ1, gt (.int (lo + (i : Int))) ρ = some ρ1 ∧ ft ρ1 s = some (.ok true s) ∧ fe ρ1 s = some (.ok (F i) s)) : lcL gt ft fe none ρ (rngD lo n) s = some ((List.range n).map F, s) := by
  rw [lcL_map (F := fun d => match d with | .int j => F (j - lo).toNat | _ => .non) fun d hd => ?_]
  · unfold rngD
    rw [List.map_map]
    congr 2
    apply List.map_congr_left
    intro i _
    show F (lo + (i : Int) - lo).toNat = F i
    congr 1
    omega
  · obtain ⟨i, hi, rfl⟩ := mem_rngD hd
    obtain ⟨ρ1, h1, h2, h3⟩ := h i hi
    refine ⟨ρ1, h1, h2, ?_⟩
    rw [h3]
    show _ = some (Res.ok (F (lo + (i : Int) - lo).toNat) s)
    rw [show (lo + (i : Int) - lo).toNat = i by omega]
/-- with a test -/
theorem lcL_if : ∀ {n : Nat} {lo : Int} {F : Nat → D} {p : Nat → Bool}, (∀ i, i < n → ∃ ρ1, gt (.int (lo + (i : Int))) ρ = some ρ1 ∧ ft ρ1 s = some (.ok (p i) s) ∧ (p i = true → fe ρ1 s = some (.ok (F i) s))) → lcL gt ft fe none ρ (rngD lo n) s = some (((List.range n).filter p).map F, s)
  | 0, _, _, _, _ => by rw [rngD_zero, lcL_nil, chk_none, if_pos rfl]; rfl
  | n + 1, lo, F, p, h => by
    obtain ⟨ρ1, h1, h2, h3⟩ := h 0 (Nat.succ_pos _)
    have e : lo + ((0 : Nat) : Int) = lo := by simp
    rw [e] at h1
    have ih := lcL_if (n := n) (lo := lo + 1) (F := fun i => F (i + 1)) (p := fun i => p (i + 1)) fun i hi => by
      have := h (i + 1) (Nat.succ_lt_succ hi)
      have e2 : lo + ((i + 1 : Nat) : Int) = lo + 1 + (i : Int) := by omega
      rwa [e2] at this
    rw [rngD_succ, lcL_cons, chk_none, if_pos rfl, h1]
    simp only [h2]
    have er : ((List.range (n + 1)).filter p).map F = (if p 0 = true then [F 0] else []) ++ ((List.range n).filter fun i => p (i + 1)).map fun i => F (i + 1) := by
      rw [List.range_succ_eq_map, List.filter_cons, List.filter_map]
      split
      · rw [List.map_cons, List.map_map]; rfl
      · rw [List.map_map]; rfl
    rw [er]
    cases hp : p 0 with
    | true =>
      simp only [h3 hp, ih, if_true]
      rfl
    | false =>
      simp only [ih, Bool.false_eq_true, if_false]
      rfl
/-- the store changes from item to item: I the store ahead of the i-th -/
theorem lcL_st {I : Nat → Sto} {F : Nat → D} : ∀ {ds : List D} {k : Nat}, (∀ i (hi : i < ds.length), ∃ ρ1, gt ds[i] ρ = some ρ1 ∧ ft ρ1 (I (k + i)) = some (.ok true (I (k + i))) ∧ fe ρ1 (I (k + i)) = some (.ok (F (k + i)) (I (k + i + 1)))) →
    lcL gt ft fe none ρ ds (I k) = some ((List.range ds.length).map (fun i => F (k + i)), I (k + ds.length))
  | [], k, _ => by rw [lcL_nil, chk_none, if_pos rfl]; rfl
  | d :: ds, k, h => by
    obtain ⟨ρ1, h1, h2, h3⟩ := h 0 (Nat.succ_pos _)
    rw [lcL_cons, chk_none, if_pos rfl]
    have h1' : gt d ρ = some ρ1 := h1
    have h2' : ft ρ1 (I k) = some (.ok true (I k)) := h2
    have h3' : fe ρ1 (I k) = some (.ok (F k) (I (k + 1))) := h3
    have ih := lcL_st (I := I) (F := F) (ds := ds) (k := k + 1) fun i hi => by
      have := h (i + 1) (Nat.succ_lt_succ hi)
      rw [show k + 1 + i = k + (i + 1) by omega]
      exact this
    simp only [h1', h2', h3', ih, List.length_cons, List.range_succ_eq_map, List.map_cons, List.map_map]
    congr 2
    · congr 1
      apply List.map_congr_left
      intro i _
      show F (k + 1 + i) = F (k + (i + 1))
      congr 1
      omega
    · congr 1
      omega
/-- a for, by the names and the store behind each turn -/
theorem forL_inv {I : Nat → Rho × Sto} : ∀ {ds : List D} {k : Nat}, (∀ i (hi : i < ds.length), ∃ ρ1, gt ds[i] (I (k + i)).1 = some ρ1 ∧ fb ρ1 (I (k + i)).2 = some (.nx (I (k + i + 1)).1 (I (k + i + 1)).2)) → forL gt fb none ds (I k).1 (I k).2 = some (.nx (I (k + ds.length)).1 (I (k + ds.length)).2)
  | [], k, _ => by rw [forL_nil, chk_none, if_pos rfl]; rfl
  | d :: ds, k, h => by
    obtain ⟨ρ1, h1, h2⟩ := h 0 (Nat.succ_pos _)
    have h1' : gt d (I k).1 = some ρ1 := h1
    have h2' : fb ρ1 (I k).2 = some (.nx (I (k + 1)).1 (I (k + 1)).2) := h2
    have ih := forL_inv (I := I) (ds := ds) (k := k + 1) fun i hi => by
      have := h (i + 1) (Nat.succ_lt_succ hi)
      rw [show k + 1 + i = k + (i + 1) by omega]
      exact this
    rw [forL_cons, chk_none, if_pos rfl, h1']
    simp only [h2', ih, List.length_cons]
    rw [show k + 1 + ds.length = k + (ds.length + 1) by omega]
/-- a for over a range, by the names behind each turn -/
theorem forL_rng : ∀ {n : Nat} {lo : Int} {I : Nat → Rho}, (∀ i, i < n → ∃ ρ1, gt (.int (lo + (i : Int))) (I i) = some ρ1 ∧ fb ρ1 s = some (.nx (I (i + 1)) s)) → forL gt fb none (rngD lo n) (I 0) s = some (.nx (I n) s)
  | 0, _, _, _ => by rw [rngD_zero, forL_nil, chk_none, if_pos rfl]
  | n + 1, lo, I, h => by
    obtain ⟨ρ1, h1, h2⟩ := h 0 (Nat.succ_pos _)
    have e : lo + ((0 : Nat) : Int) = lo := by simp
    rw [e] at h1
    have ih := forL_rng (n := n) (lo := lo + 1) (I := fun i => I (i + 1)) fun i hi => by
      have := h (i + 1) (Nat.succ_lt_succ hi)
      have e2 : lo + ((i + 1 : Nat) : Int) = lo + 1 + (i : Int) := by omega
      rwa [e2] at this
    rw [rngD_succ, forL_cons, chk_none, if_pos rfl, h1]
    simp only [h2]
    exact ih
end
@[simp] theorem blsD_map {α : Type} : ∀ (l : List α) (f : α → Bool), blsD (l.map fun x => D.bl (f x)) = some (l.map f)
  | [], f => rfl
  | a :: l, f => by simp only [List.map_cons, blsD, blsD_map l f, Option.map_some]
@[simp] theorem intsD_mapF {α : Type} : ∀ (l : List α) (f : α → Int), intsD (l.map fun x => D.int (f x)) = some (l.map f)
  | [], f => rfl
  | a :: l, f => by simp only [List.map_cons, intsD, intsD_mapF l f, Option.map_some]
theorem lows_int (n : Nat) : ∀ ns : List Int, lows n (ns.map D.int) = true
  | [] => rfl
  | a :: ns => by simp only [List.map_cons, lows, low, lows_int n ns, Bool.and_self]
theorem shlI_nat {i : Int} {k : Nat} (h0 : 0 ≤ i) (h1 : i ≤ 1000000000000) (h2 : k ≤ 1000000) : shlI i (k : Int) = some (.int (i * 2 ^ k)) := by
  unfold shlI
  rw [if_pos (shOk_of h0 h1 (by omega) (by omega))]
  rfl
@[simp] theorem shlI_one {k : Nat} (h2 : k ≤ 1000000) : shlI 1 (k : Int) = some (.int (2 ^ k)) := by
  rw [shlI_nat (by decide) (by decide) h2, Int.one_mul]
@[simp] theorem shlI_lit (a k : Nat) (h1 : a ≤ 1000000000000) (h2 : k ≤ 1000000) : shlI (no_index (OfNat.ofNat a) : Int) (no_index (OfNat.ofNat k) : Int) = some (.int (OfNat.ofNat a * 2 ^ k)) :=
  shlI_nat (i := (a : Int)) (k := k) (by omega) (by omega) h2
@[simp] theorem shrI_nat (i : Int) (k : Nat) : shrI i (k : Int) = some (.int (i / 2 ^ k)) := by
  unfold shrI
  rw [if_pos (by omega)]
  rfl
/-! ### what a def hands back -/
/-- a store that no owned object points out of -/
def Low (s : Sto) : Prop := s.all (lowS s.length) = true
theorem fin_low {s : Sto} {d : D} {kp : Bool} (hs : Low s) (hd : low s.length d = true) : fin kp s.length d s = some (.ok d s) := by
  unfold fin
  rw [List.take_length, if_pos (show s.all (lowS s.length) = true from hs)]
  cases d with
  | own l =>
    have : l < s.length := by simpa only [low, decide_eq_true_eq] using hd
    simp only [this, if_true]
  | _ => simp only [hd, if_true]
theorem finX_low {s : Sto} {e : Exn} (hs : Low s) (hd : low s.length e.p = true) : finX s.length e s = some (.ex e s) := by
  unfold finX
  rw [List.take_length, if_pos ⟨show s.all (lowS s.length) = true from hs, hd⟩]
/-- nothing within is owned -/
def frD (d : D) : Bool := low 0 d
mutual
theorem low_mono {m n : Nat} (h : m ≤ n) : ∀ d : D, low m d = true → low n d = true
  | .own l, e => by simp only [low, decide_eq_true_eq] at e ⊢; omega
  | .lst ds, e => by simp only [low] at e ⊢; exact lows_mono h ds e
  | .tup ds, e => by simp only [low] at e ⊢; exact lows_mono h ds e
  | .lck ds, e => by simp only [low] at e ⊢; exact lows_mono h ds e
  | .ins _ _ ds, e => by simp only [low] at e ⊢; exact lows_mono h ds e
  | .dct _ _ ds, e => by simp only [low] at e ⊢; exact lows_mono h ds e
  | .non, _ => rfl
  | .bl _, _ => rfl
  | .int _, _ => rfl
  | .str _, _ => rfl
  | .set _ _, _ => rfl
  | .fn _, _ => rfl
  | .lam _ _ _ _ _, e => by simp only [low] at e ⊢; exact lows_mono h _ e
theorem lows_mono {m n : Nat} (h : m ≤ n) : ∀ ds : List D, lows m ds = true → lows n ds = true
  | [], _ => rfl
  | d :: ds, e => by
    simp only [lows, Bool.and_eq_true] at e ⊢
    exact ⟨low_mono h d e.1, lows_mono h ds e.2⟩
end
theorem frD_low {d : D} (n : Nat) (h : frD d = true) : low n d = true := low_mono (Nat.zero_le n) d h
theorem lows_all {n : Nat} : ∀ {ds : List D}, lows n ds = ds.all (low n)
  | [] => rfl
  | d :: ds => by simp only [lows, List.all_cons, lows_all]
end
end VM
set_option Elab.async false
set_option maxRecDepth 100000
set_option maxHeartbeats 4000000
set_option linter.all false
set_option autoImplicit false
namespace VM
open PySem L2
/-! ### stores, what defs hand back -/
section
variable {s t : Sto} {d : D} {so : SO} {kp : Bool} {α : Type}
@[simp] theorem set_last {x y : SO} : (s ++ [x]).set s.length y = s ++ [y] := by
  rw [List.set_append]
  simp
theorem take_app {xs ys : List α} : (xs ++ ys).take xs.length = xs := List.take_left' rfl
theorem fin_app (hs : Low s) (hd : low s.length d = true) : fin kp s.length d (s ++ t) = some (.ok d s) := by
  unfold fin
  rw [take_app, if_pos (show s.all (lowS s.length) = true from hs)]
  cases d with
  | own l =>
    have : l < s.length := by simpa only [low, decide_eq_true_eq] using hd
    simp only [this, if_true]
  | _ => simp only [hd, if_true]
theorem fin_frz (hs : Low s) (hl : lowS s.length so = true) : fin false s.length (.own s.length) (s ++ so :: t) = some (.ok (frz so) s) := by
  unfold fin
  rw [take_app, if_pos (show s.all (lowS s.length) = true from hs)]
  simp [hl]
theorem fin_own (hs : Low s) (hl : lowS s.length so = true) : fin true s.length (.own s.length) (s ++ so :: t) = some (.ok (.own s.length) (s ++ [so])) := by
  unfold fin
  rw [take_app, if_pos (show s.all (lowS s.length) = true from hs)]
  simp [hl]
theorem finX_app {e : Exn} (hs : Low s) (hd : low s.length e.p = true) : finX s.length e (s ++ t) = some (.ex e s) := by
  unfold finX
  rw [take_app, if_pos ⟨show s.all (lowS s.length) = true from hs, hd⟩]
theorem finI (hs : Low s) {i : Int} : fin kp s.length (.int i) s = some (.ok (.int i) s) := fin_low hs rfl
theorem finB (hs : Low s) {b : Bool} : fin kp s.length (.bl b) s = some (.ok (.bl b) s) := fin_low hs rfl
theorem finN (hs : Low s) : fin kp s.length .non s = some (.ok .non s) := fin_low hs rfl
theorem finS (hs : Low s) {b : Str} : fin kp s.length (.str b) s = some (.ok (.str b) s) := fin_low hs rfl
end
theorem lowS_mono {m n : Nat} (h : m ≤ n) {so : SO} (e : lowS m so = true) : lowS n so = true := by
  cases so <;> simp only [lowS] at e ⊢ <;> exact lows_mono h _ e
theorem Low.app {s t : Sto} (h : Low s) (ht : t.all (lowS (s.length + t.length)) = true) : Low (s ++ t) := by
  unfold Low at h ⊢
  rw [List.all_append, List.length_append, Bool.and_eq_true]
  refine ⟨List.all_eq_true.mpr fun x hx => lowS_mono (Nat.le_add_right _ _) (List.all_eq_true.mp h x hx), ht⟩
theorem Low.snoc {s : Sto} {so : SO} (h : Low s) (ht : lowS (s.length + 1) so = true) : Low (s ++ [so]) := h.app (by simp [ht])
theorem lt_LIM {n : Nat} (h : n < 100000) : n < LIM := by rw [LIM_eq]; exact h
@[simp] theorem lit_LIM_lt (n : Nat) (h : n < 100000) : (no_index (OfNat.ofNat n) : Nat) < LIM := lt_LIM h
theorem rngD_1 : rngD 0 1 = [.int 0] := rfl
theorem rngD_2 : rngD 0 2 = [.int 0, .int 1] := rfl
theorem rngD_3 : rngD 0 3 = [.int 0, .int 1, .int 2] := rfl
theorem rngD_4 : rngD 0 4 = [.int 0, .int 1, .int 2, .int 3] := rfl
/-- a value that isinstance takes -/
def plv : D → Bool
  | .own _ => false
  | .set _ _ => false
  | .fn _ => false
  | .lam _ _ _ _ _ => false
  | _ => true
/-! ### loops by a wish about names and store -/
section
variable {gt : D → Rho → Option Rho} {ft : M Bool} {fe : M D} {fb : MS}
theorem forL_pred {P : Nat → Rho → Sto → Prop} : ∀ {ds : List D} {k : Nat} {ρ : Rho} {s : Sto}, P k ρ s → (∀ i (hi : i < ds.length) ρ s, P (k + i) ρ s → ∃ ρ1 ρ2 s2, gt ds[i] ρ = some ρ1 ∧ fb ρ1 s = some (.nx ρ2 s2) ∧ P (k + i + 1) ρ2 s2) →
    ∃ ρ' s', forL gt fb none ds ρ s = some (.nx ρ' s') ∧ P (k + ds.length) ρ' s'
  | [], k, ρ, s, h0, _ => ⟨ρ, s, by rw [forL_nil, chk_none, if_pos rfl], h0⟩
  | d :: ds, k, ρ, s, h0, h => by
    obtain ⟨ρ1, ρ2, s2, h1, h2, h3⟩ := h 0 (Nat.succ_pos _) ρ s h0
    obtain ⟨ρ', s', e, p⟩ := forL_pred (ds := ds) (k := k + 1) h3 fun i hi ρ s hp => by
      have := h (i + 1) (Nat.succ_lt_succ hi) ρ s (by rw [show k + (i + 1) = k + 1 + i by omega]; exact hp)
      rw [show k + 1 + i + 1 = k + (i + 1) + 1 by omega]
      exact this
    refine ⟨ρ', s', ?_, by rw [show k + (d :: ds).length = k + 1 + ds.length by rw [List.length_cons]; omega]; exact p⟩
    have h1' : gt d ρ = some ρ1 := h1
    rw [forL_cons, chk_none, if_pos rfl, h1']
    simp only [h2]
    exact e
theorem forL_predT {P : Nat → Rho → Sto → Prop} : ∀ {ds : List D} {k : Nat} {ρ : Rho} {s : Sto}, P k ρ s → (∀ i (hi : i < ds.length) ρ s, P (k + i) ρ s → ∃ ρ1 ρ2 s2, gt ds[i] ρ = some ρ1 ∧ fb ρ1 s = some (.nx ρ2 s2) ∧ P (k + i + 1) ρ2 s2) →
    ∃ ρ' s', (∀ es, forL gt fb none (ds ++ es) ρ s = forL gt fb none es ρ' s') ∧ P (k + ds.length) ρ' s'
  | [], k, ρ, s, h0, _ => ⟨ρ, s, fun _ => rfl, h0⟩
  | d :: ds, k, ρ, s, h0, h => by
    obtain ⟨ρ1, ρ2, s2, h1, h2, h3⟩ := h 0 (Nat.succ_pos _) ρ s h0
    obtain ⟨ρ', s', e, p⟩ := forL_predT (ds := ds) (k := k + 1) h3 fun i hi ρ s hp => by
      have := h (i + 1) (Nat.succ_lt_succ hi) ρ s (by rw [show k + (i + 1) = k + 1 + i by omega]; exact hp)
      rw [show k + 1 + i + 1 = k + (i + 1) + 1 by omega]
      exact this
    refine ⟨ρ', s', fun es => ?_, by rw [show k + (d :: ds).length = k + 1 + ds.length by rw [List.length_cons]; omega]; exact p⟩
    have h1' : gt d ρ = some ρ1 := h1
    rw [List.cons_append, forL_cons, chk_none, if_pos rfl, h1']
    simp only [h2]
    exact e es
theorem rngD_get {lo : Int} {n i : Nat} (hi : i < (rngD lo n).length) : (rngD lo n)[i] = .int (lo + (i : Int)) := by
  have e : (rngD lo n)[i]? = some (.int (lo + (i : Int))) := by
    rw [rngD_length] at hi
    unfold rngD
    rw [List.getElem?_map, List.getElem?_range hi]
    rfl
  rw [List.getElem?_eq_getElem hi] at e
  exact Option.some.inj e
/-- it goes on, and then P -/
def nxP (P : Rho → Sto → Prop) : Option Out → Prop
  | some (.nx ρ s) => P ρ s
  | _ => False
@[simp] theorem nxP_nx {P : Rho → Sto → Prop} {ρ : Rho} {s : Sto} : nxP P (some (.nx ρ s)) = P ρ s := nrf rfl
theorem nxP_ex {P : Rho → Sto → Prop} {o : Option Out} (h : nxP P o) : ∃ ρ s, o = some (.nx ρ s) ∧ P ρ s := by
  unfold nxP at h
  split at h
  · exact ⟨_, _, rfl, h⟩
  · exact h.elim
/-- it gives a value, and then P -/
def okP {α : Type} (P : α → Sto → Prop) : Option (Res α) → Prop
  | some (.ok x s) => P x s
  | _ => False
@[simp] theorem okP_ok {α : Type} {P : α → Sto → Prop} {x : α} {s : Sto} : okP P (some (.ok x s)) = P x s := nrf rfl
theorem okP_ex {α : Type} {P : α → Sto → Prop} {o : Option (Res α)} (h : okP P o) : ∃ x s, o = some (.ok x s) ∧ P x s := by
  unfold okP at h
  split at h
  · exact ⟨_, _, rfl, h⟩
  · exact h.elim
theorem forL_rngP {P : Nat → Rho → Sto → Prop} {lo : Int} {n : Nat} {ρ : Rho} {s : Sto} (h0 : P 0 ρ s) (h : ∀ i, i < n → ∀ ρ s, P i ρ s → ∃ ρ1, gt (.int (lo + (i : Int))) ρ = some ρ1 ∧ nxP (P (i + 1)) (fb ρ1 s)) :
    ∃ ρ' s', forL gt fb none (rngD lo n) ρ s = some (.nx ρ' s') ∧ P n ρ' s' := by
  obtain ⟨ρ', s', e, p⟩ := forL_pred (gt := gt) (fb := fb) (P := P) (ds := rngD lo n) (k := 0) h0 fun i hi ρ s hp => by
    rw [rngD_get hi]
    rw [rngD_length] at hi
    rw [Nat.zero_add] at hp ⊢
    obtain ⟨ρ1, e1, q⟩ := h i hi ρ s hp
    obtain ⟨ρ2, s2, e2, q⟩ := nxP_ex q
    exact ⟨ρ1, ρ2, s2, e1, e2, q⟩
  exact ⟨ρ', s', e, by rwa [rngD_length, Nat.zero_add] at p⟩
theorem forL_P {P : Nat → Rho → Sto → Prop} {ds : List D} {ρ : Rho} {s : Sto} (h0 : P 0 ρ s) (h : ∀ i (hi : i < ds.length) ρ s, P i ρ s → ∃ ρ1, gt ds[i] ρ = some ρ1 ∧ nxP (P (i + 1)) (fb ρ1 s)) :
    ∃ ρ' s', forL gt fb none ds ρ s = some (.nx ρ' s') ∧ P ds.length ρ' s' := by
  obtain ⟨ρ', s', e, p⟩ := forL_pred (gt := gt) (fb := fb) (P := P) (ds := ds) (k := 0) h0 fun i hi ρ s hp => by
    rw [Nat.zero_add] at hp ⊢
    obtain ⟨ρ1, e1, q⟩ := h i hi ρ s hp
    obtain ⟨ρ2, s2, e2, q⟩ := nxP_ex q
    exact ⟨ρ1, ρ2, s2, e1, e2, q⟩
  exact ⟨ρ', s', e, by rwa [Nat.zero_add] at p⟩
/-- it raises, and then Q -/
def exP (Q : Exn → Rho → Sto → Prop) : Option Out → Prop
  | some (.ex e ρ s) => Q e ρ s
  | _ => False
@[simp] theorem exP_ex {Q : Exn → Rho → Sto → Prop} {e : Exn} {ρ : Rho} {s : Sto} : exP Q (some (.ex e ρ s)) = Q e ρ s := nrf rfl
theorem exP_of {Q : Exn → Rho → Sto → Prop} {o : Option Out} (h : exP Q o) : ∃ e ρ s, o = some (.ex e ρ s) ∧ Q e ρ s := by
  unfold exP at h
  split at h
  · exact ⟨_, _, _, rfl, h⟩
  · exact h.elim
/-- it returns, and then Q -/
def rtP (Q : D → Sto → Prop) : Option Out → Prop
  | some (.rt d s) => Q d s
  | _ => False
@[simp] theorem rtP_rt {Q : D → Sto → Prop} {d : D} {s : Sto} : rtP Q (some (.rt d s)) = Q d s := nrf rfl
theorem rtP_of {Q : D → Sto → Prop} {o : Option Out} (h : rtP Q o) : ∃ d s, o = some (.rt d s) ∧ Q d s := by
  unfold rtP at h
  split at h
  · exact ⟨_, _, rfl, h⟩
  · exact h.elim
theorem forL_E {P : Nat → Rho → Sto → Prop} {Q : Exn → Rho → Sto → Prop} {ds es : List D} {d : D} {ρ : Rho} {s : Sto} (h0 : P 0 ρ s) (h : ∀ i (hi : i < ds.length) ρ s, P i ρ s → ∃ ρ1, gt ds[i] ρ = some ρ1 ∧ nxP (P (i + 1)) (fb ρ1 s))
    (hl : ∀ ρ s, P ds.length ρ s → ∃ ρ1, gt d ρ = some ρ1 ∧ exP Q (fb ρ1 s)) : ∃ e ρ' s', forL gt fb none (ds ++ d :: es) ρ s = some (.ex e ρ' s') ∧ Q e ρ' s' := by
  obtain ⟨ρ', s', e, p⟩ := forL_predT (gt := gt) (fb := fb) (P := P) (ds := ds) (k := 0) h0 fun i hi ρ s hp => by
    rw [Nat.zero_add] at hp ⊢
    obtain ⟨ρ1, e1, q⟩ := h i hi ρ s hp
    obtain ⟨ρ2, s2, e2, q⟩ := nxP_ex q
    exact ⟨ρ1, ρ2, s2, e1, e2, q⟩
  rw [Nat.zero_add] at p
  obtain ⟨ρ1, e1, q⟩ := hl ρ' s' p
  obtain ⟨x, ρ2, s2, e2, q⟩ := exP_of q
  refine ⟨x, ρ2, s2, ?_, q⟩
  rw [e, forL_cons, chk_none, if_pos rfl, e1]
  simp only [e2]
theorem forL_R {P : Nat → Rho → Sto → Prop} {Q : D → Sto → Prop} {ds es : List D} {d : D} {ρ : Rho} {s : Sto} (h0 : P 0 ρ s) (h : ∀ i (hi : i < ds.length) ρ s, P i ρ s → ∃ ρ1, gt ds[i] ρ = some ρ1 ∧ nxP (P (i + 1)) (fb ρ1 s))
    (hl : ∀ ρ s, P ds.length ρ s → ∃ ρ1, gt d ρ = some ρ1 ∧ rtP Q (fb ρ1 s)) : ∃ x s', forL gt fb none (ds ++ d :: es) ρ s = some (.rt x s') ∧ Q x s' := by
  obtain ⟨ρ', s', e, p⟩ := forL_predT (gt := gt) (fb := fb) (P := P) (ds := ds) (k := 0) h0 fun i hi ρ s hp => by
    rw [Nat.zero_add] at hp ⊢
    obtain ⟨ρ1, e1, q⟩ := h i hi ρ s hp
    obtain ⟨ρ2, s2, e2, q⟩ := nxP_ex q
    exact ⟨ρ1, ρ2, s2, e1, e2, q⟩
  rw [Nat.zero_add] at p
  obtain ⟨ρ1, e1, q⟩ := hl ρ' s' p
  obtain ⟨x, s2, e2, q⟩ := rtP_of q
  refine ⟨x, s2, ?_, q⟩
  rw [e, forL_cons, chk_none, if_pos rfl, e1]
  simp only [e2]
theorem rngD_split {lo : Int} {m n : Nat} (h : m < n) : rngD lo n = rngD lo m ++ .int (lo + (m : Int)) :: rngD (lo + (m : Int) + 1) (n - m - 1) := by
  unfold rngD
  obtain ⟨k, rfl⟩ : ∃ k, n = m + (1 + k) := ⟨n - m - 1, by omega⟩
  rw [List.range_add, List.map_append, List.map_map, Nat.add_comm 1 k, List.range_succ_eq_map, List.map_cons, List.map_map, show m + (k + 1) - m - 1 = k by omega]
  congr 2
  apply List.map_congr_left
  intro j _
  show D.int (lo + ((m + (j + 1) : Nat) : Int)) = D.int (lo + (m : Int) + 1 + (j : Int))
  congr 1
  omega
theorem forL_rngE {P : Nat → Rho → Sto → Prop} {Q : Exn → Rho → Sto → Prop} {lo : Int} {m n : Nat} {ρ : Rho} {s : Sto} (hm : m < n) (h0 : P 0 ρ s) (h : ∀ i, i < m → ∀ ρ s, P i ρ s → ∃ ρ1, gt (.int (lo + (i : Int))) ρ = some ρ1 ∧ nxP (P (i + 1)) (fb ρ1 s))
    (hl : ∀ ρ s, P m ρ s → ∃ ρ1, gt (.int (lo + (m : Int))) ρ = some ρ1 ∧ exP Q (fb ρ1 s)) : ∃ e ρ' s', forL gt fb none (rngD lo n) ρ s = some (.ex e ρ' s') ∧ Q e ρ' s' := by
  rw [rngD_split hm]
  refine forL_E h0 (fun i hi ρ s hp => ?_) (by rw [rngD_length]; exact hl)
  rw [rngD_get hi]
  rw [rngD_length] at hi
  exact h i hi ρ s hp
theorem lcL_pred {P : Nat → List D → Sto → Prop} {ρ : Rho} : ∀ {ds : List D} {k : Nat} {acc : List D} {s : Sto}, P k acc s → (∀ i (hi : i < ds.length) acc s, P (k + i) acc s → ∃ ρ1, gt ds[i] ρ = some ρ1 ∧ ((∃ s1, ft ρ1 s = some (.ok false s1) ∧ P (k + i + 1) acc s1) ∨
      ∃ s1 y s2, ft ρ1 s = some (.ok true s1) ∧ fe ρ1 s1 = some (.ok y s2) ∧ P (k + i + 1) (acc ++ [y]) s2)) → ∃ ys s', lcL gt ft fe none ρ ds s = some (ys, s') ∧ P (k + ds.length) (acc ++ ys) s'
  | [], k, acc, s, h0, _ => ⟨[], s, by rw [lcL_nil, chk_none, if_pos rfl], by rw [List.append_nil]; exact h0⟩
  | d :: ds, k, acc, s, h0, h => by
    obtain ⟨ρ1, h1, h2⟩ := h 0 (Nat.succ_pos _) acc s h0
    have h1' : gt d ρ = some ρ1 := h1
    have st : ∀ acc s, P (k + 1) acc s → ∃ ys s', lcL gt ft fe none ρ ds s = some (ys, s') ∧ P (k + 1 + ds.length) (acc ++ ys) s' := fun acc s hp => lcL_pred (ds := ds) (k := k + 1) hp fun i hi acc s hp => by
      have := h (i + 1) (Nat.succ_lt_succ hi) acc s (by rw [show k + (i + 1) = k + 1 + i by omega]; exact hp)
      rw [show k + 1 + i + 1 = k + (i + 1) + 1 by omega]
      exact this
    have hl : k + (d :: ds).length = k + 1 + ds.length := by rw [List.length_cons]; omega
    rw [hl]
    rcases h2 with ⟨s1, e1, p1⟩ | ⟨s1, y, s2, e1, e2, p1⟩
    · obtain ⟨ys, s', e, p⟩ := st acc s1 p1
      exact ⟨ys, s', by rw [lcL_cons, chk_none, if_pos rfl, h1']; simp only [e1]; exact e, p⟩
    · obtain ⟨ys, s', e, p⟩ := st (acc ++ [y]) s2 p1
      refine ⟨y :: ys, s', by rw [lcL_cons, chk_none, if_pos rfl, h1']; simp only [e1, e2, e], ?_⟩
      rwa [List.append_assoc] at p
/-- over a range, nothing left out -/
theorem lcL_rngP {P : Nat → List D → Sto → Prop} {ρ : Rho} {lo : Int} {n : Nat} {s : Sto} (h0 : P 0 [] s) (h : ∀ i, i < n → ∀ acc s, P i acc s → ∃ ρ1, gt (.int (lo + (i : Int))) ρ = some ρ1 ∧ ft ρ1 s = some (.ok true s) ∧ okP (fun y s2 => P (i + 1) (acc ++ [y]) s2) (fe ρ1 s)) :
    ∃ ys s', lcL gt ft fe none ρ (rngD lo n) s = some (ys, s') ∧ P n ys s' := by
  obtain ⟨ys, s', e, p⟩ := lcL_pred (gt := gt) (ft := ft) (fe := fe) (P := P) (ρ := ρ) (ds := rngD lo n) (k := 0) (acc := []) h0 fun i hi acc s hp => by
    rw [rngD_get hi]
    rw [rngD_length] at hi
    rw [Nat.zero_add] at hp ⊢
    obtain ⟨ρ1, h1, h2, h3⟩ := h i hi acc s hp
    obtain ⟨y, s2, h3, h4⟩ := okP_ex h3
    exact ⟨ρ1, h1, .inr ⟨s, y, s2, h2, h3, h4⟩⟩
  exact ⟨ys, s', e, by rwa [rngD_length, Nat.zero_add, List.nil_append] at p⟩
end
/-! ### texts of small numbers -/
theorem strI_small {k : Nat} (h : k < 1000000) : strI (k : Int) = true := by
  unfold strI
  rw [decide_eq_true_eq, Int.natAbs_natCast]
  by_cases h0 : k = 0
  · subst h0; decide
  · exact (Nat.log2_lt h0).mpr (Nat.lt_of_lt_of_le h (Nat.le_trans (show 1000000 ≤ 2 ^ 20 by decide) (Nat.pow_le_pow_right (by decide) (by decide))))
theorem istr_len64 : ∀ k : Nat, k < 64 → (istr (k : Int)).length ≤ 2 := by
  unfold istr
  decide +kernel
end VM
set_option Elab.async false
set_option maxRecDepth 100000
set_option maxHeartbeats 4000000
set_option linter.all false
set_option autoImplicit false
/-! == of plain data. -/
namespace VM
open PySem L2
noncomputable section
/-- plain data, at most n deep -/
def datD : Nat → D → Bool
  | _, .non => true
  | _, .bl _ => true
  | _, .int _ => true
  | _, .str x => PyData.strOk x
  | n + 1, .lst ds => ds.all (datD n)
  | n + 1, .lck ds => ds.all (datD n)
  | n + 1, .tup ds => ds.all (datD n)
  | _, _ => false
theorem toPys_of {ds : List D} : ∀ {n : Nat}, (∀ d ∈ ds, ∃ p, toPy d = some p ∧ p.canLay0 = true ∧ p.depth ≤ n) → ∃ ps, toPys ds = some ps ∧ PyData.canLayAll0 ps = true ∧ PyData.depthAll ps ≤ n := by
  induction ds with
  | nil => exact fun _ => ⟨[], rfl, rfl, Nat.zero_le _⟩
  | cons d ds ih =>
    intro n h
    obtain ⟨p, e, c, dp⟩ := h d List.mem_cons_self
    obtain ⟨ps, e2, c2, d2⟩ := ih fun x hx => h x (List.mem_cons_of_mem _ hx)
    refine ⟨p :: ps, by rw [toPys, e, e2], by rw [PyData.canLayAll0, c, c2]; rfl, ?_⟩
    show max _ _ ≤ n
    exact Nat.max_le.mpr ⟨dp, d2⟩
theorem datD_ok : ∀ (n : Nat) (d : D), datD n d = true → ∃ p, toPy d = some p ∧ p.canLay0 = true ∧ p.depth ≤ n
  | n, .non, _ => ⟨.none, by rw [toPy], by simp [PyData.canLay0], by simp [PyData.depth]⟩
  | n, .bl b, _ => ⟨.bool b, by rw [toPy], by simp [PyData.canLay0], by simp [PyData.depth]⟩
  | n, .int b, _ => ⟨.int b, by rw [toPy], by simp [PyData.canLay0], by simp [PyData.depth]⟩
  | n, .str b, h => ⟨.str b, by rw [toPy], by simpa [PyData.canLay0, datD] using h, by simp [PyData.depth]⟩
  | n + 1, .lst ds, h => by
    obtain ⟨ps, e, c, dp⟩ := toPys_of (ds := ds) (n := n) fun d hd => datD_ok n d (by rw [datD, List.all_eq_true] at h; exact h d hd)
    exact ⟨.list ps, by rw [toPy, e], by simpa [PyData.canLay0] using c, by simp only [PyData.depth]; omega⟩
  | n + 1, .lck ds, h => by
    obtain ⟨ps, e, c, dp⟩ := toPys_of (ds := ds) (n := n) fun d hd => datD_ok n d (by rw [datD, List.all_eq_true] at h; exact h d hd)
    exact ⟨.list ps, by rw [toPy, e], by simpa [PyData.canLay0] using c, by simp only [PyData.depth]; omega⟩
  | n + 1, .tup ds, h => by
    obtain ⟨ps, e, c, dp⟩ := toPys_of (ds := ds) (n := n) fun d hd => datD_ok n d (by rw [datD, List.all_eq_true] at h; exact h d hd)
    exact ⟨.tuple ps, by rw [toPy, e], by simpa [PyData.canLay0] using c, by simp only [PyData.depth]; omega⟩
  | 0, .lst ds, h => by simp [datD] at h
  | 0, .lck ds, h => by simp [datD] at h
  | 0, .tup ds, h => by simp [datD] at h
  | n, .own _, h => by cases n <;> simp [datD] at h
  | n, .ins _ _ _, h => by cases n <;> simp [datD] at h
  | n, .dct _ _ _, h => by cases n <;> simp [datD] at h
  | n, .set _ _, h => by cases n <;> simp [datD] at h
  | n, .fn _, h => by cases n <;> simp [datD] at h
  | n, .lam _ _ _ _ _, h => by cases n <;> simp [datD] at h
/-- are two data equal -/
def eqv (x y : D) : Bool := match toPy x, toPy y with
  | some a, some b => PyData.eqv a b
  | _, _ => false
theorem dr_dat {s : Sto} {n : Nat} {d : D} (h : datD n d = true) : dr s d = d := by
  cases d <;> first | rfl | (cases n <;> simp [datD] at h)
theorem shaped_of {p : PyData} {n : Nat} (hn : n ≤ 64) (c : p.canLay0 = true) (d : p.depth ≤ n) : SeqAt.shaped p = true := by
  unfold SeqAt.shaped
  rw [c, decide_eq_true (Nat.le_trans d hn)]
  rfl
theorem beq_dec {α : Type} [BEq α] [LawfulBEq α] [DecidableEq α] (i j : α) : (i == j) = decide (i = j) := by
  rw [Bool.eq_iff_iff]
  simp
theorem scD_eqv {x y : D} {b : Bool} (h : scD x y = some b) : eqv x y = b := by
  unfold scD at h
  split at h <;> first | cases h | skip
  all_goals (first | (simp [eqv, toPy, PyData.eqv]; done) | (simp only [eqv, toPy, PyData.eqv]; exact beq_dec _ _))
/-- the end of == -/
theorem eqB_dat {s : Sto} {m n : Nat} {x y : D} (hx : datD m x = true) (hy : datD n y = true) (hm : m ≤ 64) (hn : n ≤ 64) : eqB s x y = some (eqv x y) := by
  unfold eqB
  cases e : scD x y with
  | some b => simp only [scD_eqv e]
  | none =>
    obtain ⟨p, e1, c1, d1⟩ := datD_ok m x hx
    obtain ⟨q, e2, c2, d2⟩ := datD_ok n y hy
    simp only [dr_dat hx, dr_dat hy, e1, e2, shaped_of hm c1 d1, shaped_of hn c2 d2, and_self, if_true]
    unfold eqv
    simp only [e1, e2]
theorem eqD_dat {s : Sto} {m n : Nat} {x y : D} (hx : datD m x = true) (hy : datD n y = true) (hm : m ≤ 64) (hn : n ≤ 64) : eqD s x y = some (.bl (eqv x y)) := by
  unfold eqD
  rw [eqB_dat hx hy hm hn]
  rfl
theorem neD_dat {s : Sto} {m n : Nat} {x y : D} (hx : datD m x = true) (hy : datD n y = true) (hm : m ≤ 64) (hn : n ≤ 64) : neD s x y = some (.bl (!eqv x y)) := by
  unfold neD
  rw [eqB_dat hx hy hm hn]
  rfl
theorem eqvAll_refl : ∀ {ps : List PyData}, (∀ p ∈ ps, PyData.eqv p p = true) → PyData.eqvAll ps ps = true
  | [], _ => rfl
  | p :: ps, h => by
    rw [PyData.eqvAll, h p List.mem_cons_self, eqvAll_refl fun q hq => h q (List.mem_cons_of_mem _ hq)]
    rfl
theorem toPys_refl {ds : List D} (h : ∀ d ∈ ds, ∀ p, toPy d = some p → PyData.eqv p p = true) : ∀ ps, toPys ds = some ps → PyData.eqvAll ps ps = true := by
  induction ds with
  | nil => intro ps e; cases e; rfl
  | cons d ds ih =>
    intro ps e
    rw [toPys] at e
    split at e
    · rename_i p ps' e1 e2
      cases e
      rw [PyData.eqvAll, h d List.mem_cons_self p e1, ih (fun x hx => h x (List.mem_cons_of_mem _ hx)) ps' e2]
      rfl
    · cases e
theorem eqvPy_refl : ∀ (n : Nat) (d : D), datD n d = true → ∀ p, toPy d = some p → PyData.eqv p p = true
  | n, .non, _, p, e => by rw [toPy] at e; cases e; rfl
  | n, .bl b, _, p, e => by rw [toPy] at e; cases e; simp [PyData.eqv]
  | n, .int b, _, p, e => by rw [toPy] at e; cases e; simp [PyData.eqv]
  | n, .str b, _, p, e => by rw [toPy] at e; cases e; simp [PyData.eqv]
  | n + 1, .lst ds, h, p, e => by
    rw [toPy] at e
    split at e
    · rename_i ps e1
      cases e
      rw [PyData.eqv]
      exact toPys_refl (fun d hd => eqvPy_refl n d (by rw [datD, List.all_eq_true] at h; exact h d hd)) ps e1
    · cases e
  | n + 1, .lck ds, h, p, e => by
    rw [toPy] at e
    split at e
    · rename_i ps e1
      cases e
      rw [PyData.eqv]
      exact toPys_refl (fun d hd => eqvPy_refl n d (by rw [datD, List.all_eq_true] at h; exact h d hd)) ps e1
    · cases e
  | n + 1, .tup ds, h, p, e => by
    rw [toPy] at e
    split at e
    · rename_i ps e1
      cases e
      rw [PyData.eqv]
      exact toPys_refl (fun d hd => eqvPy_refl n d (by rw [datD, List.all_eq_true] at h; exact h d hd)) ps e1
    · cases e
  | 0, .lst ds, h, _, _ => by simp [datD] at h
  | 0, .lck ds, h, _, _ => by simp [datD] at h
  | 0, .tup ds, h, _, _ => by simp [datD] at h
  | n, .own _, h, _, _ => by cases n <;> simp [datD] at h
  | n, .ins _ _ _, h, _, _ => by cases n <;> simp [datD] at h
  | n, .dct _ _ _, h, _, _ => by cases n <;> simp [datD] at h
  | n, .set _ _, h, _, _ => by cases n <;> simp [datD] at h
  | n, .fn _, h, _, _ => by cases n <;> simp [datD] at h
  | n, .lam _ _ _ _ _, h, _, _ => by cases n <;> simp [datD] at h
theorem eqv_refl {n : Nat} {d : D} (h : datD n d = true) : eqv d d = true := by
  obtain ⟨p, e, _, _⟩ := datD_ok n d h
  unfold eqv
  simp only [e]
  exact eqvPy_refl n d h p e
/-! row by row -/
theorem eqv_tup {as bs : List D} : eqv (.tup as) (.tup bs) = (match toPys as, toPys bs with | some p, some q => PyData.eqvAll p q | _, _ => false) := by
  unfold eqv
  rw [toPy, toPy]
  cases toPys as <;> cases toPys bs <;> rfl
theorem eqv_lst {as bs : List D} : eqv (.lst as) (.lst bs) = eqv (.tup as) (.tup bs) := by
  unfold eqv
  rw [toPy, toPy, toPy, toPy]
  cases toPys as <;> cases toPys bs <;> rfl
@[simp] theorem eqv_nil : eqv (.tup []) (.tup []) = true := nrf (by simp [eqv, toPy, toPys, PyData.eqv, PyData.eqvAll])
theorem eqv_cons {m n : Nat} {a b : D} {as bs : List D} (ha : datD m a = true) (hb : datD n b = true) (has : as.all (datD m) = true) (hbs : bs.all (datD n) = true) : eqv (.tup (a :: as)) (.tup (b :: bs)) = (eqv a b && eqv (.tup as) (.tup bs)) := by
  obtain ⟨p, e1, _, _⟩ := datD_ok m a ha
  obtain ⟨q, e2, _, _⟩ := datD_ok n b hb
  obtain ⟨ps, e3, _, _⟩ := toPys_of (n := m) fun d hd => datD_ok m d (List.all_eq_true.mp has d hd)
  obtain ⟨qs, e4, _, _⟩ := toPys_of (n := n) fun d hd => datD_ok n d (List.all_eq_true.mp hbs d hd)
  rw [eqv_tup, eqv_tup, toPys, toPys, e1, e2, e3, e4]
  unfold eqv
  simp only [e1, e2]
  rw [PyData.eqvAll]
theorem toPys_some : ∀ {ds : List D} {ps : List PyData}, toPys ds = some ps → ds.length = ps.length
  | [], _, e => by cases e; rfl
  | d :: ds, ps, e => by
    rw [toPys] at e
    split at e
    · rename_i p ps' e1 e2
      cases e
      rw [List.length_cons, List.length_cons, toPys_some e2]
    · cases e
theorem eqvAll_len : ∀ {p q : List PyData}, PyData.eqvAll p q = true → p.length = q.length
  | [], [], _ => rfl
  | a :: p, b :: q, h => by
    rw [PyData.eqvAll, Bool.and_eq_true] at h
    rw [List.length_cons, List.length_cons, eqvAll_len h.2]
  | [], _ :: _, h => by simp [PyData.eqvAll] at h
  | _ :: _, [], h => by simp [PyData.eqvAll] at h
theorem eqv_len {as bs : List D} (h : eqv (.tup as) (.tup bs) = true) : as.length = bs.length := by
  rw [eqv_tup] at h
  split at h
  · rename_i p q e1 e2
    rw [toPys_some e1, toPys_some e2, eqvAll_len h]
  · cases h
theorem eqv_ne_len {as bs : List D} (h : as.length ≠ bs.length) : eqv (.tup as) (.tup bs) = false := by
  cases e : eqv (.tup as) (.tup bs) with
  | false => rfl
  | true => exact absurd (eqv_len e) h
@[simp] theorem eqv_int {i j : Int} : eqv (.int i) (.int j) = decide (i = j) := nrf (by simp only [eqv, toPy, PyData.eqv]; exact beq_dec _ _)
@[simp] theorem eqv_bl {i j : Bool} : eqv (.bl i) (.bl j) = decide (i = j) := nrf (by simp only [eqv, toPy, PyData.eqv]; exact beq_dec _ _)
@[simp] theorem eqv_str {i j : Str} : eqv (.str i) (.str j) = decide (i = j) := nrf (by simp only [eqv, toPy, PyData.eqv]; exact beq_dec _ _)
theorem eqv_ints : ∀ {as bs : List Int}, eqv (.tup (as.map .int)) (.tup (bs.map .int)) = decide (as = bs)
  | [], [] => by simp
  | a :: as, b :: bs => by
    have hd : ∀ l : List Int, (l.map D.int).all (datD 0) = true := fun l => by simp [datD]
    rw [List.map_cons, List.map_cons, eqv_cons (m := 0) (n := 0) rfl rfl (hd _) (hd _), eqv_ints, eqv_int]
    simp
  | [], b :: bs => by rw [eqv_ne_len (by simp)]; simp
  | a :: as, [] => by rw [eqv_ne_len (by simp)]; simp
end
end VM
set_option Elab.async false
set_option maxRecDepth 100000
set_option maxHeartbeats 4000000
set_option linter.all false
set_option autoImplicit false
namespace VM
open PySem L2
noncomputable section
@[simp] theorem allD_map {s : Sto} {α : Type} (l : List α) (f : α → Bool) : allD s (.lst (l.map fun x => D.bl (f x))) = some (.bl (l.all f)) := by
  unfold allD itL
  simp
@[simp] theorem anyD_map {s : Sto} {α : Type} (l : List α) (f : α → Bool) : anyD s (.lst (l.map fun x => D.bl (f x))) = some (.bl (l.any f)) := by
  unfold anyD itL
  simp
@[simp] theorem sumD_map {s : Sto} {α : Type} (l : List α) (f : α → Int) : sumD s (.lst (l.map fun x => D.int (f x))) = some (.int (l.map f).sum) := by
  unfold sumD itL
  simp
@[simp] theorem lookup_nat {α : Type} {k a : Nat} {x : α} {l : List (Nat × α)} : List.lookup k ((a, x) :: l) = if k = a then some x else l.lookup k := by
  rw [List.lookup_cons]
  by_cases h : k = a
  · subst h; simp
  · have : (k == a) = false := by simpa using h
    simp [this, h]
/-- each less than the next -/
def incr : List Int → Bool
  | a :: b :: r => decide (a < b) && incr (b :: r)
  | _ => true
theorem incr_range : ∀ ns : List Int, ((List.range (ns.length - 1)).all fun k => decide (ns.getD k 0 < ns.getD (k + 1) 0)) = incr ns
  | [] => rfl
  | [a] => rfl
  | a :: b :: r => by
    have ih := incr_range (b :: r)
    rw [show (a :: b :: r).length - 1 = ((b :: r).length - 1) + 1 by simp, List.range_succ_eq_map, List.all_cons, List.all_map, incr, ← ih]
    rfl
theorem incr_of : ∀ {ns : List Int}, ns.Pairwise (· < ·) → incr ns = true
  | [], _ => rfl
  | [a], _ => rfl
  | a :: b :: r, h => by
    obtain ⟨h1, h2⟩ := List.pairwise_cons.mp h
    rw [incr, incr_of h2, decide_eq_true (h1 b List.mem_cons_self)]
    rfl
theorem get_int {ns : List Int} {k : Nat} (h : k < ns.length) : (ns.map D.int)[k]? = some (.int (ns.getD k 0)) := by
  rw [List.getElem?_map, List.getD_eq_getElem?_getD, List.getElem?_eq_getElem h]
  rfl
end
end VM
set_option Elab.async false
set_option maxRecDepth 100000
set_option maxHeartbeats 4000000
set_option linter.all false
set_option autoImplicit false
/-! Dicts, by what is found in them. -/
namespace VM
open PySem L2
noncomputable section
@[simp] theorem keyK_int {i : Int} : keyK (.int i) = some (.inl i) := nrf rfl
@[simp] theorem keyK_str {i : Str} : keyK (.str i) = some (.inr i) := nrf rfl
theorem lookD_put {k j : Key} {z : D} : ∀ {ks vs : List D}, ks.length = vs.length → lookD j (kputD k z ks vs).1 (kputD k z ks vs).2 = if j = k then some z else lookD j ks vs := by
  intro ks vs hl
  unfold kputD
  by_cases hk : hasK k ks = true
  · rw [if_pos hk]
    dsimp only
    induction ks generalizing vs with
    | nil => simp [hasK] at hk
    | cons x ks ih =>
      cases vs with
      | nil => cases hl
      | cons v vs =>
        rw [putVs, lookD, lookD]
        by_cases hx : keyK x = some k
        · by_cases hj : j = k
          · subst hj
            simp [hx]
          · have : ¬ keyK x = some j := fun e => hj (by rw [hx] at e; exact (Option.some.inj e).symm)
            rw [if_neg this, if_neg this, if_neg hj]
            have hl' : ks.length = vs.length := Nat.succ.inj hl
            have gen : ∀ {ks vs : List D}, lookD j ks (putVs k z ks vs) = lookD j ks vs := by
              intro ks
              induction ks with
              | nil => intro vs; cases vs <;> rfl
              | cons x ks ih =>
                intro vs
                cases vs with
                | nil => rfl
                | cons v vs =>
                  rw [putVs, lookD, lookD, ih]
                  by_cases hx : keyK x = some k
                  · have : ¬ keyK x = some j := fun e => hj (by rw [hx] at e; exact (Option.some.inj e).symm)
                    rw [if_neg this, if_neg this]
                  · rw [if_neg hx]
            exact gen
        · rw [if_neg hx]
          have hk' : hasK k ks = true := by simpa [hasK, hx] using hk
          rw [ih (Nat.succ.inj hl) hk']
          by_cases hj : keyK x = some j
          · have : ¬ j = k := fun e => hx (by rw [← e]; exact hj)
            rw [if_pos hj, if_pos hj, if_neg this]
          · rw [if_neg hj, if_neg hj]
  · rw [if_neg hk]
    dsimp only
    induction ks generalizing vs with
    | nil =>
      cases vs with
      | cons _ _ => cases hl
      | nil =>
        show (if keyK (keyD k) = some j then some z else none) = _
        rw [keyK_keyD]
        by_cases h : j = k
        · rw [h, if_pos rfl, if_pos rfl]
        · rw [if_neg (fun e => h (Option.some.inj e).symm), if_neg h]
          rfl
    | cons x ks ih =>
      cases vs with
      | nil => cases hl
      | cons v vs =>
        have hx : ¬ keyK x = some k := fun e => hk (by simp [hasK, e])
        have hk' : ¬ hasK k ks = true := fun e => hk (by simp [hasK] at e ⊢; exact .inr e)
        rw [List.cons_append, List.cons_append, lookD, lookD, ih (Nat.succ.inj hl) hk']
        by_cases hj : keyK x = some j
        · have : ¬ j = k := fun e => hx (by rw [← e]; exact hj)
          rw [if_pos hj, if_pos hj, if_neg this]
        · rw [if_neg hj, if_neg hj]
theorem putVs_len {k : Key} {z : D} : ∀ {ks vs : List D}, ks.length = vs.length → (putVs k z ks vs).length = ks.length
  | [], [], _ => rfl
  | x :: ks, v :: vs, h => by rw [putVs, List.length_cons, List.length_cons, putVs_len (Nat.succ.inj h)]
theorem kputD_len {k : Key} {z : D} {ks vs : List D} (h : ks.length = vs.length) : (kputD k z ks vs).1.length = (kputD k z ks vs).2.length := by
  unfold kputD
  split
  · exact (putVs_len h).symm
  · simp [h]
theorem kputD_le {k : Key} {z : D} {ks vs : List D} : (kputD k z ks vs).1.length ≤ ks.length + 1 := by
  unfold kputD
  split
  · exact Nat.le_succ _
  · simp
theorem putVs_low {k : Key} {z : D} {n : Nat} (hz : low n z = true) : ∀ {ks vs : List D}, lows n vs = true → lows n (putVs k z ks vs) = true
  | [], _, _ => rfl
  | _ :: _, [], _ => rfl
  | x :: ks, v :: vs, h => by
    simp only [lows, Bool.and_eq_true] at h
    rw [putVs]
    simp only [lows, Bool.and_eq_true]
    exact ⟨by split <;> first | exact hz | exact h.1, putVs_low hz h.2⟩
theorem kputD_low {k : Key} {z : D} {n : Nat} {ks vs : List D} (hz : low n z = true) (h : lows n vs = true) : lows n (kputD k z ks vs).2 = true := by
  unfold kputD
  split
  · exact putVs_low hz h
  · rw [lows_all, List.all_append, ← lows_all, h]
    simp [hz]
def dctO : Option SO → Option (List D × List D)
  | some (.dct false ks vs) => some (ks, vs)
  | _ => none
@[simp] theorem dctO_dct {ks vs : List D} : dctO (some (.dct false ks vs)) = some (ks, vs) := nrf rfl
@[simp] theorem dctOf_own {s : Sto} {l : Nat} : dctOf s (.own l) = dctO s[l]? := by
  show (match s[l]? with
    | some (.dct false ks vs) => some (ks, vs)
    | _ => none) = _
  generalize s[l]? = o
  cases o with
  | none => rfl
  | some o => cases o with
    | dct t ks vs => cases t <;> rfl
    | _ => rfl
@[simp] theorem dctOf_dct {s : Sto} {ks vs : List D} : dctOf s (.dct false ks vs) = some (ks, vs) := nrf rfl
theorem inD_ap {s : Sto} {x y : D} : inD s y x = (dctOf s x).bind fun p => (keyK y).map fun k => .bl (lookD k p.1 p.2).isSome := nrf rfl
theorem getD_ap {s : Sto} {x y : D} : getD' s x y = (dctOf s x).bind fun p => (keyK y).bind fun k => lookD k p.1 p.2 := nrf rfl
theorem dputD_own {s : Sto} {l : Nat} {i v : D} : dputD s (.own l) i v = (dctOf s (.own l)).bind fun q => (keyK i).bind fun k => if q.1.length < LIM then some (s.set l (.dct false (kputD k v q.1 q.2).1 (kputD k v q.1 q.2).2)) else none := nrf rfl
@[simp] theorem fNewK_ap {ρ : Rho} {s : Sto} : fNewK ρ s = some (.ok (.own s.length) (s ++ [.dct false [] []])) := nrf rfl
/-- a slice up to the last -/
theorem cut_init {α : Type} (ds : List α) (f : α → D) : cutD (ds.map f) none (some (-1)) = (ds.take (ds.length - 1)).map f := by
  unfold cutD
  simp only [HT.sIx_none]
  have : HT.sIx (ds.map f).length (ds.map f).length (some (-1)) = ds.length - 1 := by
    show (if (-1 : Int) < 0 then ((-1 : Int) + ((ds.map f).length : Int)).toNat else min (-1 : Int).toNat (ds.map f).length) = _
    rw [if_pos (by decide), List.length_map]
    omega
  rw [this, List.drop_zero, Nat.sub_zero, List.map_take]
end
end VM
set_option Elab.async false
set_option maxRecDepth 100000
set_option maxHeartbeats 4000000
set_option linter.all false
set_option autoImplicit false
/-! Comprehensions with two fors; dicts of ints as sets; sorted. -/
namespace VM
open PySem L2
noncomputable section
section
variable {β : Type} {gt : D → Rho → Option Rho} {ft : M Bool} {bd : Rho → β → Sto → Option (β × Sto)}
/-- a row's item is done, and then P -/
def bdP (P : β → Sto → Prop) : Option (β × Sto) → Prop
  | some (b, s) => P b s
  | none => False
@[simp] theorem bdP_some {P : β → Sto → Prop} {b : β} {s : Sto} : bdP P (some (b, s)) = P b s := nrf rfl
theorem bdP_ex {P : β → Sto → Prop} {o : Option (β × Sto)} (h : bdP P o) : ∃ b s, o = some (b, s) ∧ P b s := by
  unfold bdP at h
  split at h
  · exact ⟨_, _, rfl, h⟩
  · exact h.elim
theorem clL_pred {P : Nat → β → Sto → Prop} {ρ : Rho} : ∀ {ds : List D} {k : Nat} {b : β} {s : Sto}, P k b s → (∀ i (hi : i < ds.length) b s, P (k + i) b s → ∃ ρ1, gt ds[i] ρ = some ρ1 ∧ ((ft ρ1 s = some (.ok false s) ∧ P (k + i + 1) b s) ∨ (ft ρ1 s = some (.ok true s) ∧ bdP (P (k + i + 1)) (bd ρ1 b s)))) →
    ∃ b' s', clL gt ft bd none ρ ds b s = some (b', s') ∧ P (k + ds.length) b' s'
  | [], k, b, s, h0, _ => ⟨b, s, by rw [clL_nil, chk_none, if_pos rfl], h0⟩
  | d :: ds, k, b, s, h0, h => by
    obtain ⟨ρ1, h1, h2⟩ := h 0 (Nat.succ_pos _) b s h0
    have h1' : gt d ρ = some ρ1 := h1
    have st : ∀ b s, P (k + 1) b s → ∃ b' s', clL gt ft bd none ρ ds b s = some (b', s') ∧ P (k + 1 + ds.length) b' s' := fun b s hp => clL_pred (ds := ds) (k := k + 1) hp fun i hi b s hp => by
      have := h (i + 1) (Nat.succ_lt_succ hi) b s (by rw [show k + (i + 1) = k + 1 + i by omega]; exact hp)
      rw [show k + 1 + i + 1 = k + (i + 1) + 1 by omega]
      exact this
    have hl : k + (d :: ds).length = k + 1 + ds.length := by rw [List.length_cons]; omega
    rw [hl]
    rcases h2 with ⟨e1, p1⟩ | ⟨e1, p1⟩
    · obtain ⟨b', s', e, p⟩ := st b s p1
      exact ⟨b', s', by rw [clL_cons, chk_none, if_pos rfl, h1']; simp only [e1]; exact e, p⟩
    · obtain ⟨b2, s2, e2, p1⟩ := bdP_ex p1
      obtain ⟨b', s', e, p⟩ := st b2 s2 p1
      exact ⟨b', s', by rw [clL_cons, chk_none, if_pos rfl, h1']; simp only [e1, e2]; exact e, p⟩
theorem clL_P {P : Nat → β → Sto → Prop} {ρ : Rho} {ds : List D} {b : β} {s : Sto} (h0 : P 0 b s) (h : ∀ i (hi : i < ds.length) b s, P i b s → ∃ ρ1, gt ds[i] ρ = some ρ1 ∧ ft ρ1 s = some (.ok true s) ∧ bdP (P (i + 1)) (bd ρ1 b s)) :
    ∃ b' s', clL gt ft bd none ρ ds b s = some (b', s') ∧ P ds.length b' s' := by
  obtain ⟨b', s', e, p⟩ := clL_pred (gt := gt) (ft := ft) (bd := bd) (P := P) (ρ := ρ) (ds := ds) (k := 0) h0 fun i hi b s hp => by
    rw [Nat.zero_add] at hp ⊢
    obtain ⟨ρ1, h1, h2, h3⟩ := h i hi b s hp
    exact ⟨ρ1, h1, .inr ⟨h2, h3⟩⟩
  exact ⟨b', s', e, by rwa [Nat.zero_add] at p⟩
theorem clL_rngP {P : Nat → β → Sto → Prop} {ρ : Rho} {lo : Int} {n : Nat} {b : β} {s : Sto} (h0 : P 0 b s) (h : ∀ i, i < n → ∀ b s, P i b s → ∃ ρ1, gt (.int (lo + (i : Int))) ρ = some ρ1 ∧ ft ρ1 s = some (.ok true s) ∧ bdP (P (i + 1)) (bd ρ1 b s)) :
    ∃ b' s', clL gt ft bd none ρ (rngD lo n) b s = some (b', s') ∧ P n b' s' := by
  obtain ⟨b', s', e, p⟩ := clL_P (gt := gt) (ft := ft) (bd := bd) (P := P) (ρ := ρ) (ds := rngD lo n) h0 fun i hi b s hp => by
    rw [rngD_get hi]
    rw [rngD_length] at hi
    exact h i hi b s hp
  exact ⟨b', s', e, by rwa [rngD_length] at p⟩
end
theorem cl1_ap {β : Type} {fi1 : M Src} {g1 : D → Rho → Option Rho} {ft1 : M Bool} {bd : Rho → β → Sto → Option (β × Sto)} {vs1 : List Nat} {ρ : Rho} {b : β} {s : Sto} : cl1 fi1 g1 ft1 bd vs1 ρ b s = match fi1 ρ s with
  | some (.ok z s1) => clL g1 ft1 bd z.2 (wipeD ρ vs1) z.1 b s1
  | _ => none := nrf rfl
theorem lcB_ap {fe : M D} {ρ : Rho} {b : List D} {s : Sto} : lcB fe ρ b s = match fe ρ s with
  | some (.ok y s1) => if b.length < LIM then some (b ++ [y], s1) else none
  | _ => none := nrf rfl
theorem dcB_ap {fk fv : M D} {ρ : Rho} {b : List D × List D} {s : Sto} : dcB fk fv ρ b s = match fk ρ s with
  | some (.ok y s1) => match fv ρ s1 with
    | some (.ok x s2) => (keyK y).bind fun k => if b.1.length < LIM then some (kputD k x b.1 b.2, s2) else none
    | _ => none
  | _ => none := nrf rfl
theorem fLc2_ap {fi : M Src} {g : D → Rho → Option Rho} {ft : M Bool} {fi1 : M Src} {g1 : D → Rho → Option Rho} {ft1 : M Bool} {fe : M D} {vs vs1 : List Nat} {ρ : Rho} {s : Sto} : fLc2 fi g ft fi1 g1 ft1 fe vs vs1 ρ s = bnd fi (fun z => fun ρ s =>
  match clL g ft (cl1 fi1 g1 ft1 (lcB fe) vs1) z.2 (wipeD ρ vs) z.1 [] s with
  | some (b, s') => some (.ok (.lst b) s')
  | none => none) ρ s := nrf rfl
theorem fDc2_ap {fi : M Src} {g : D → Rho → Option Rho} {ft : M Bool} {fi1 : M Src} {g1 : D → Rho → Option Rho} {ft1 : M Bool} {fk fv : M D} {vs vs1 : List Nat} {ρ : Rho} {s : Sto} : fDc2 fi g ft fi1 g1 ft1 fk fv vs vs1 ρ s = bnd fi (fun z => fun ρ s =>
  match clL g ft (cl1 fi1 g1 ft1 (dcB fk fv) vs1) z.2 (wipeD ρ vs) z.1 ([], []) s with
  | some (b, s') => some (.ok (.dct false b.1 b.2) s')
  | none => none) ρ s := nrf rfl
theorem fDc_ap {fi : M Src} {g : D → Rho → Option Rho} {ft : M Bool} {fk fv : M D} {vs : List Nat} {ρ : Rho} {s : Sto} : fDc fi g ft fk fv vs ρ s = bnd fi (fun z => fun ρ s =>
  match clL g ft (dcB fk fv) z.2 (wipeD ρ vs) z.1 ([], []) s with
  | some (b, s') => some (.ok (.dct false b.1 b.2) s')
  | none => none) ρ s := nrf rfl
/-! ### ints as keys -/
theorem hasK_ints {k : Int} : ∀ {l : List Int}, hasK (.inl k) (l.map D.int) = decide (k ∈ l)
  | [] => by simp [hasK]
  | a :: l => by
    have ih := hasK_ints (k := k) (l := l)
    unfold hasK at ih ⊢
    rw [List.map_cons, List.any_cons, ih, keyK_int]
    by_cases h : a = k
    · subst h; simp
    · have h2 : ¬ (some (Sum.inl a : Key) = some (.inl k)) := fun e => h (by injection e with e; injection e)
      have h3 : ¬ k = a := fun e => h e.symm
      simp [h3, h]
/-- the keys behind a put -/
def addK (k : Int) (l : List Int) : List Int := if k ∈ l then l else l ++ [k]
theorem kput_ints {k : Int} {z : D} {l : List Int} {vs : List D} : (kputD (.inl k) z (l.map D.int) vs).1 = (addK k l).map D.int := by
  unfold kputD addK
  rw [hasK_ints]
  by_cases h : k ∈ l
  · simp [h]
  · simp [h, keyD]
theorem addK_nodup {k : Int} {l : List Int} (h : l.Nodup) : (addK k l).Nodup := by
  unfold addK
  split
  · exact h
  · exact nodup_snoc h (by assumption)
theorem mem_addK {k x : Int} {l : List Int} : x ∈ addK k l ↔ x ∈ l ∨ x = k := by
  unfold addK
  split
  · constructor
    · exact .inl
    · rintro (h | rfl) <;> assumption
  · simp
theorem addK_len {k : Int} {l : List Int} : (addK k l).length ≤ l.length + 1 := by
  unfold addK
  split
  · exact Nat.le_succ _
  · simp
theorem perm_of_mem {a b : List Int} (ha : a.Nodup) (hb : b.Nodup) (h : ∀ x, x ∈ a ↔ x ∈ b) : a.Perm b := by
  rw [List.perm_iff_count]
  intro x
  by_cases hx : x ∈ a
  · rw [ha.count, hb.count, if_pos hx, if_pos ((h x).mp hx)]
  · rw [List.count_eq_zero_of_not_mem hx, List.count_eq_zero_of_not_mem fun y => hx ((h x).mpr y)]
theorem sortI_eq {a b : List Int} (ha : a.Nodup) (hb : b.Nodup) (h : ∀ x, x ∈ a ↔ x ∈ b) : sortI a = sortI b :=
  sorted_eq (sortI_sorted a) (sortI_sorted b) ((sortI_perm a).trans ((perm_of_mem ha hb h).trans (sortI_perm b).symm))
theorem sortI_strict {a : List Int} (ha : a.Nodup) : (sortI a).Pairwise (· < ·) := by
  have h1 := sortI_sorted a
  have h2 : (sortI a).Nodup := (sortI_perm a).nodup_iff.mpr ha
  have := h1.and h2
  exact this.imp fun ⟨a, b⟩ => by omega
theorem mem_sortI {a : List Int} {x : Int} : x ∈ sortI a ↔ x ∈ a := (sortI_perm a).mem_iff
@[simp] theorem setD_ints {s : Sto} (ns : List Int) : setD s (.lst (ns.map D.int)) = if ns.length ≤ 4000 then some (.set false ((dedI ns).map .int)) else none := by
  unfold setD itL
  simp [intsD_map]
theorem srt_set {s : Sto} (ns : List Int) : sortedD s (.set false (ns.map D.int)) = if ns.length < 64 then some (.lst ((sortI ns).map .int)) else none := by
  unfold sortedD
  simp only [intsD_map, Option.bind_some]
theorem srt_dct {s : Sto} (ns : List Int) (vs : List D) : sortedD s (.dct false (ns.map D.int) vs) = if ns.length < 64 then some (.lst ((sortI ns).map .int)) else none := by
  unfold sortedD
  simp only [intsD_map, Option.bind_some]
theorem lowS_lst {n : Nat} {ds : List D} : lowS n (.lst ds) = lows n ds := nrf rfl
theorem lowS_dct {n : Nat} {t : Bool} {ks vs : List D} : lowS n (.dct t ks vs) = lows n vs := nrf rfl
theorem lowS_ins {n c : Nat} {ns : List Nat} {vs : List D} : lowS n (.ins c ns vs) = lows n vs := nrf rfl
end
end VM
set_option Elab.async false
set_option maxRecDepth 100000
set_option maxHeartbeats 4000000
set_option linter.all false
set_option autoImplicit false
/-! Evaluation of the forms of VO1 .. VO8. -/
namespace VM
open PySem L2
section
variable {α β : Type} {ρ : Rho} {s : Sto} {f g fa fb : M D} {fr : M (List D)} {n i j l : Nat} {d : D} {L : FM} {m : LM} {js : List Nat}
theorem allF_none : allF (fun _ _ _ _ => (none : Option α)) = none := by
  unfold allF
  rw [dif_neg]
  rintro ⟨r, h⟩
  have := h 0 0 "" []
  cases this
@[simp] theorem allF_const (r : Option α) : allF (fun _ _ _ _ => r) = r := by
  cases r with
  | none => exact allF_none
  | some r => exact allF_eq fun _ _ _ _ => rfl
@[simp] theorem Lof_ap {st : Sto} {ds : List D} : Lof js fb ρ st ds = fb (setL ρ js ds) st := nrf rfl
@[simp] theorem setL_nil {α : Type} (σ : List (Option α)) (vs : List α) : setL σ [] vs = σ := nrf (by cases vs <;> rfl)
@[simp] theorem setL_cons {α : Type} (σ : List (Option α)) (j : Nat) (js : List Nat) (v : α) (vs : List α) : setL σ (j :: js) (v :: vs) = setL (σ.set j (some v)) js vs := nrf rfl
@[simp] theorem fLamC_ap : fLamC m js fb n fr ρ s = bnd fr (fun xs ρ s => if xs.length + 1 = n then allF fun a c q us => m (.lam a c q us (captD ρ)) (Lof js fb ρ) s (xs ++ [.lam a c q us (captD ρ)]) else none) ρ s := nrf rfl
theorem fLam_ap : fLam i d n L fr ρ s = match ρ[i]? with
  | some (some d') => if sameD d' d = true then bnd fr (fun xs => fun _ s => if xs.length = n then L s xs else none) ρ s else none
  | _ => none := nrf rfl
@[simp] theorem sameD_self (d : D) : sameD d d = true := sameD_refl d
@[simp] theorem fRgA1_ap : fRgA1 f ρ s = bnd f (fun x => got fun _ => match x with
  | .int j => rgA 0 j
  | _ => none) ρ s := nrf rfl
@[simp] theorem fRgA2_ap : fRgA2 f g ρ s = bnd f (fun x => bnd g fun y => got fun _ => match x, y with
  | .int i, .int j => rgA i j
  | _, _ => none) ρ s := nrf rfl
@[simp] theorem fRgT_ap : fRgT fr ρ s = bnd fr (fun xs => ret (.tup xs)) ρ s := nrf rfl
@[simp] theorem fRgL_ap : fRgL fr ρ s = bnd fr (fun xs => ret (.lst xs)) ρ s := nrf rfl
@[simp] theorem fRgO_ap : fRgO fr ρ s = bnd fr (fun xs => fun _ s => some (.ok (.own s.length) (s ++ [.lst xs]))) ρ s := nrf rfl
theorem rgA_of {i j : Int} (h1 : -1000000 ≤ i) (h2 : i ≤ 1000000) (h3 : -1000000 ≤ j) (h4 : j ≤ 1000000) (h5 : j - i < 100000) : rgA i j = some (rngD i (j - i).toNat) := by
  unfold rgA
  rw [if_pos]
  simp only [rgOk, Bool.and_eq_true, decide_eq_true_eq, smallI_iff]
  exact ⟨⟨⟨by omega, by omega⟩, by omega, by omega⟩, lt_LIM (by omega)⟩
@[simp] theorem fAugX_ap : fAugX i f ρ s = match ρ[i]? with
  | some (some (.own l)) => bndS f (fun y ρ s => match lstAt s l, y with
    | some ds, .lst es => if ds.length + es.length < LIM then some (.nx (ρ.set i (some (.own l))) (s.set l (.lst (ds ++ es)))) else none
    | _, _ => none) ρ s
  | _ => none := nrf rfl
@[simp] theorem fCatO_ap : fCatO fa fb ρ s = bnd fa (fun x => bnd fb fun y => fun _ s => match lsO s x, lsO s y with
  | some a, some b => if a.length + b.length ≤ LIM then some (.ok (.own s.length) (s ++ [.lst (a ++ b)])) else none
  | _, _ => none) ρ s := nrf rfl
@[simp] theorem lsO_lst {ds : List D} : lsO s (.lst ds) = some ds := nrf rfl
@[simp] theorem fNewT_ap : fNewT ρ s = some (.ok (.own s.length) (s ++ [.dct true [] []])) := nrf rfl
@[simp] theorem fSubT_ap {fv fo fi : M D} : fSubT fv fo fi ρ s = bndS fv (fun v => bndS fo fun o => bndS fi fun i ρ s => (tputD s o i v).map fun s1 => .nx ρ s1) ρ s := nrf rfl
@[simp] theorem fPar3_ap : fPar3 i j l fr ρ s = bndS fr (fun xs ρ s => match xs with
  | [x, y, z] => some (.nx (((ρ.set i (some x)).set j (some y)).set l (some z)) s)
  | _ => none) ρ s := nrf rfl
theorem fLcO_ap {fi : M Src} {gt : D → Rho → Option Rho} {ft : M Bool} {fe : M D} {vs : List Nat} : fLcO fi gt ft fe vs ρ s = bnd fi (fun z => fun ρ s => if z.1.length ≤ LIM then match lcL gt ft fe z.2 (wipeD ρ vs) z.1 s with
  | some (ys, s') => some (.ok (.own s'.length) (s' ++ [.lst ys]))
  | none => none
  else none) ρ s := nrf rfl
/-- a key of ints -/
theorem keysD_ints : ∀ ks : List Int, keysD (ks.map D.int) = some (ks.map Sum.inl)
  | [] => rfl
  | k :: ks => by simp only [List.map_cons, keysD, keyK, keysD_ints ks, Option.bind_some, Option.map_some]
theorem keyT_ints (ks : List Int) : keyT (.tup (ks.map D.int)) = some (ks.map Sum.inl) := keysD_ints ks
end
section
variable {gt : D → Rho → Option Rho} {ft : M Bool} {fe : M D} {fb : MS} {ρ : Rho} {s : Sto}
/-- a comprehension over a mapped row, nothing left out -/
theorem lcL_ml {α : Type} {G F : α → D} : ∀ {l : List α}, (∀ a ∈ l, ∃ ρ1, gt (G a) ρ = some ρ1 ∧ ft ρ1 s = some (.ok true s) ∧ fe ρ1 s = some (.ok (F a) s)) → lcL gt ft fe none ρ (l.map G) s = some (l.map F, s)
  | [], _ => by rw [List.map_nil, lcL_nil, chk_none, if_pos rfl]; rfl
  | a :: l, h => by
    obtain ⟨ρ1, h1, h2, h3⟩ := h a List.mem_cons_self
    rw [List.map_cons, lcL_cons, chk_none, if_pos rfl, h1]
    simp only [h2, h3, lcL_ml (l := l) fun b hb => h b (List.mem_cons_of_mem _ hb), List.map_cons]
end
@[simp] theorem sumD2_map {s : Sto} {α : Type} (l : List α) (f : α → Int) : sumD2 s (.lst (l.map fun x => D.int (f x))) = some (.int (l.map f).sum) := sumD_map l f
@[simp] theorem sumD2_ints {s : Sto} (l : List Int) : sumD2 s (.lst (l.map D.int)) = some (.int l.sum) := by
  have := sumD2_map (s := s) l id
  simpa using this
@[simp] theorem sumD2_tup {s : Sto} (l : List Int) : sumD2 s (.tup (l.map D.int)) = some (.int l.sum) := by
  show (intsD (l.map D.int)).map _ = _
  rw [intsD_map]
  rfl
end VM
set_option Elab.async false
set_option maxRecDepth 100000
set_option maxHeartbeats 4000000
set_option linter.all false
set_option autoImplicit false
namespace LW
open PySem L2 VM
noncomputable section
def nms (n : Nat) : Str := match n with
  | 0 => "CityError"
  | 6 => "InvalidNet"
  | _ => ""
def g__law_start : MS := fRet (fOwn (fCons (fVar 0) (fCons (fC (.int 0)) (fCons (fC (.int 0)) (fCons (fC (.int 7)) (fNil))))))
def m__law_start : FM := run true 1 g__law_start
def g_NodeMaker_init : MS := fSeq (fSetF 33 39 (fVar 0) (fVar 1)) (fSeq (fSetF 33 44 (fVar 0) (fOwn (fNil))) (fSetF 33 45 (fVar 0) (fNewT)))
def m_NodeMaker_init : FM := runA 2 g_NodeMaker_init
def g_QueuePlace_init : MS := fSeq (fSetF 38 53 (fVar 0) (fCB (c1 tupleD) (fCons (fVar 1) (fNil)))) (fSetF 38 54 (fVar 0) (fCB (c1 tupleD) (fCons (fVar 2) (fNil))))
def m_QueuePlace_init : FM := run false 3 g_QueuePlace_init
def g_QueuePlace_room : MS := fRet (fCB (c1 lenD) (fCons (fFld 53 (fVar 0)) (fNil)))
def m_QueuePlace_room : FM := run false 1 g_QueuePlace_room
def g_NodeMaker_node : MS := fSeq (fAsg (fOp addD (fCB (c1 tupleD) (fCons (fVar 1) (fNil))) (fTup (fCons (fOp subD (fOp subD (fC (.int 0)) (fC (.int 1))) (fVar 2)) (fNil)))) (gNm 3)) (fSeq (fIfS (fBl (fOp ninT (fVar 3) (fFld 45 (fVar 0)))) (fSeq (fSubT (fOp addD (fFld 39 (fVar 0)) (fCB (c1 lenD) (fCons (fFld 44 (fVar 0)) (fNil)))) (fFld 45 (fVar 0)) (fVar 3)) (fDrop (fApp (fOL (fFld 44 (fVar 0))) (fTup (fCons (fCB (c1 tupleD) (fCons (fVar 1) (fNil))) (fCons (fVar 2) (fNil))))))) (fNx)) (fRet (fOp getT' (fFld 45 (fVar 0)) (fVar 3))))
def m_NodeMaker_node : FM := run false 4 g_NodeMaker_node
def g_NodeMaker_pick : MS := fSeq (fIfS (fBl (fOp ltD (fVar 1) (fC (.int 2)))) (fRet (fIf (fBl (fOp eqD (fVar 1) (fC (.int 1)))) (fVar 2) (fVar 3))) (fNx)) (fRet (fIf (fBl (fOp eqD (fVar 2) (fVar 3))) (fVar 2) (fMeth 33 2 m_NodeMaker_node (fVar 0) (fCons (fTup (fCons (fVar 1) (fCons (fVar 2) (fCons (fVar 3) (fNil))))) (fCons (fC (.int 216)) (fNil))))))
def m_NodeMaker_pick : FM := run false 4 g_NodeMaker_pick
def g_NodeMaker_both : MS := fSeq (fIfS (fBl (fOp ltD (fVar 1) (fC (.int 2)))) (fRet (fIf (fBl (fOp eqD (fVar 1) (fC (.int 1)))) (fVar 2) (fC (.int 0)))) (fNx)) (fSeq (fIfS (fBl (fOp ltD (fVar 2) (fC (.int 2)))) (fRet (fIf (fBl (fOp eqD (fVar 2) (fC (.int 1)))) (fVar 1) (fC (.int 0)))) (fNx)) (fRet (fMeth 33 2 m_NodeMaker_node (fVar 0) (fCons (fTup (fCons (fVar 1) (fCons (fVar 2) (fNil)))) (fCons (fC (.int 8)) (fNil))))))
def m_NodeMaker_both : FM := run false 3 g_NodeMaker_both
def g_NodeMaker_turned : MS := fRet (fIf (fBl (fOp ltD (fVar 1) (fC (.int 2)))) (fOp subD (fC (.int 1)) (fVar 1)) (fMeth 33 2 m_NodeMaker_node (fVar 0) (fCons (fTup (fCons (fVar 1) (fNil))) (fCons (fC (.int 1)) (fNil)))))
def m_NodeMaker_turned : FM := run false 2 g_NodeMaker_turned
def g_is_length : MS := fSeq (fAsg (fMeth 33 1 m_NodeMaker_turned (fVar 0) (fCons (fOp ixD (fFld 53 (fVar 1)) (fVar 2)) (fNil))) (gNm 3)) (fRet (fIf (fBl (fOp eqD (fVar 2) (fC (.int 0)))) (fVar 3) (fMeth 33 2 m_NodeMaker_both (fVar 0) (fCons (fOp ixD (fFld 53 (fVar 1)) (fOp subD (fVar 2) (fC (.int 1)))) (fCons (fVar 3) (fNil))))))
def m_is_length : FM := run false 4 g_is_length
def g_NodeMaker_either : MS := fSeq (fIfS (fBl (fOp ltD (fVar 1) (fC (.int 2)))) (fRet (fIf (fBl (fOp eqD (fVar 1) (fC (.int 1)))) (fC (.int 1)) (fVar 2))) (fNx)) (fSeq (fIfS (fBl (fOp ltD (fVar 2) (fC (.int 2)))) (fRet (fIf (fBl (fOp eqD (fVar 2) (fC (.int 1)))) (fC (.int 1)) (fVar 1))) (fNx)) (fRet (fMeth 33 2 m_NodeMaker_node (fVar 0) (fCons (fTup (fCons (fVar 1) (fCons (fVar 2) (fNil)))) (fCons (fC (.int 14)) (fNil))))))
def m_NodeMaker_either : FM := run false 3 g_NodeMaker_either
def g_QueuePlace_width : MS := fRet (fCB (c1 lenD) (fCons (fOp ixD (fFld 54 (fVar 0)) (fC (.int 0))) (fNil)))
def m_QueuePlace_width : FM := run false 1 g_QueuePlace_width
def g_put_place : MS := fSeq (fAsg (fTup (fCons (fMeth0 38 m_QueuePlace_room (fVar 1)) (fCons (fCB (c1 lenD) (fCons (fVar 2) (fNil))) (fCons (fOwn (fNil)) (fCons (fOwn (fNil)) (fNil)))))) (gTp 4 (gCn (gNm 4) (gCn (gNm 5) (gCn (gNm 6) (gCn (gNm 7) (gNl))))))) (fSeq (fFor (fRng1 (fVar 4)) (gNm 8) (fSeq (fDrop (fApp (fOL (fVar 6)) (fMeth 33 3 m_NodeMaker_pick (fVar 0) (fCons (fVar 3) (fCons (fIf (fBl (fOp geD (fVar 8) (fVar 5))) (fOp ixD (fFld 53 (fVar 1)) (fOp subD (fVar 8) (fVar 5))) (fC (.int 1))) (fCons (fOp ixD (fFld 53 (fVar 1)) (fVar 8)) (fNil))))))) (fSeq (fAsg (fOp ixD (fFld 54 (fVar 1)) (fVar 8)) (gNm 9)) (fSeq (fFor (fRng1 (fCB (c2 min2D) (fCons (fVar 5) (fCons (fOp addD (fVar 8) (fC (.int 1))) (fNil))))) (gNm 10) (fSeq (fAsg (fMeth 33 2 m_NodeMaker_both (fVar 0) (fCons (fVar 3) (fCons (fCall 3 m_is_length (fCons (fVar 0) (fCons (fVar 1) (fCons (fOp subD (fVar 8) (fVar 10)) (fNil))))) (fNil)))) (gNm 11)) (fAsg (fCB (c1 tupleD) (fCons (fLc (fRng1 (fMeth0 38 m_QueuePlace_width (fVar 1))) (gNm 12) (ret true) (fMeth 33 2 m_NodeMaker_either (fVar 0) (fCons (fOp ixD (fVar 9) (fVar 12)) (fCons (fMeth 33 2 m_NodeMaker_both (fVar 0) (fCons (fVar 11) (fCons (fOp ixD (fOp ixD (fVar 2) (fVar 10)) (fVar 12)) (fNil)))) (fNil)))) [12]) (fNil))) (gNm 9)))) (fDrop (fApp (fOL (fVar 7)) (fVar 9))))))) (fRet (fCall 2 (makeD false 38 m_QueuePlace_init) (fCons (fVar 6) (fCons (fVar 7) (fNil))))))
def m_put_place : FM := run false 13 g_put_place
def g_check_net_rows (d : D) (L : FM) : MS := fFor (fRng1 (fCB (c1 lenD) (fCons (fVar 1) (fNil)))) (gNm 3) (fIfS (fNotT (fTru (fLam 2 d 2 L (fCons (fVar 3) (fCons (fOp ixD (fVar 1) (fVar 3)) (fNil)))))) (fRaise 6 (fTup (fCons (fVar 0) (fCons (fVar 3) (fNil))))) (fNx))
def m_check_net_rows (d : D) (L : FM) : FM := run false 4 (g_check_net_rows d L)
def g_is_count : MS := fRet (fAnd (fIs TN.int (fVar 0)) (fAnd (fNot (fIs TN.bool (fVar 0))) (fOp geD (fVar 0) (fC (.int 0)))))
def m_is_count : FM := run false 1 g_is_count
def g_is_word : MS := fRet (fAnd (fCall 1 m_is_count (fCons (fVar 0) (fNil))) (fOp ltD (fVar 0) (fOp (i2 shlI) (fC (.int 1)) (fVar 1))))
def m_is_word : FM := run false 2 g_is_word
def g_is_net_source : MS := fRet (fAnd (fCall 1 m_is_count (fCons (fVar 0) (fNil))) (fOp ltD (fVar 0) (fVar 1)))
def m_is_net_source : FM := run false 2 g_is_net_source
def g_is_net_flop : MS := fSeq (fIfS (fOrT (fNotT (fTru (fIs TN.tuple (fVar 0)))) (fOrT (fBl (fOp neD (fCB (c1 lenD) (fCons (fVar 0) (fNil))) (fC (.int 3)))) (fNotT (fTru (fIs TN.str (fOp ixD (fVar 0) (fC (.int 0)))))))) (fRet (fC (.bl false))) (fNx)) (fRet (fAnd (fCall 2 m_is_word (fCons (fOp ixD (fVar 0) (fC (.int 1))) (fCons (fC (.int 1)) (fNil)))) (fCall 2 m_is_net_source (fCons (fOp ixD (fVar 0) (fC (.int 2))) (fCons (fVar 1) (fNil))))))
def m_is_net_flop : FM := run false 2 g_is_net_flop
def g_is_net_node : MS := fSeq (fIfS (fOrT (fNotT (fTru (fIs TN.tuple (fVar 0)))) (fOrT (fBl (fOp neD (fCB (c1 lenD) (fCons (fVar 0) (fNil))) (fC (.int 2)))) (fNotT (fTru (fIs TN.tuple (fOp ixD (fVar 0) (fC (.int 0)))))))) (fRet (fC (.bl false))) (fNx)) (fSeq (fIfS (fOrT (fNotT (fBl (fChain leD leD (fC (.int 1)) (fCB (c1 lenD) (fCons (fOp ixD (fVar 0) (fC (.int 0))) (fNil))) (fC (.int 3))))) (fNotT (fTru (fCB (c1 allD) (fCons (fLc (fSrc (fOp ixD (fVar 0) (fC (.int 0)))) (gNm 2) (ret true) (fCall 2 m_is_net_source (fCons (fVar 2) (fCons (fVar 1) (fNil)))) [2]) (fNil)))))) (fRet (fC (.bl false))) (fNx)) (fRet (fCall 2 m_is_word (fCons (fOp ixD (fVar 0) (fC (.int 1))) (fCons (fOp (i2 shlI) (fC (.int 1)) (fCB (c1 lenD) (fCons (fOp ixD (fVar 0) (fC (.int 0))) (fNil)))) (fNil))))))
def m_is_net_node : FM := run false 3 g_is_net_node
def g_is_net_output : MS := fSeq (fIfS (fOrT (fNotT (fTru (fIs TN.tuple (fVar 0)))) (fOrT (fBl (fOp neD (fCB (c1 lenD) (fCons (fVar 0) (fNil))) (fC (.int 2)))) (fNotT (fTru (fIs TN.str (fOp ixD (fVar 0) (fC (.int 0)))))))) (fRet (fC (.bl false))) (fNx)) (fRet (fCall 2 m_is_net_source (fCons (fOp ixD (fVar 0) (fC (.int 1))) (fCons (fVar 1) (fNil)))))
def m_is_net_output : FM := run false 2 g_is_net_output
def g_Net_init : MS := fSeq (fFor (fSrc (fTup (fCons (fTup (fCons (fC (.str ("in" : Str))) (fCons (fVar 1) (fNil)))) (fCons (fTup (fCons (fC (.str ("flop" : Str))) (fCons (fVar 2) (fNil)))) (fCons (fTup (fCons (fC (.str ("node" : Str))) (fCons (fVar 3) (fNil)))) (fCons (fTup (fCons (fC (.str ("out" : Str))) (fCons (fVar 4) (fNil)))) (fNil))))))) (gTp 2 (gCn (gNm 5) (gCn (gNm 6) (gNl)))) (fIfS (fNotT (fTru (fIs TN.tuple (fVar 6)))) (fRaise 6 (fTup (fCons (fVar 5) (fCons (fC .non) (fNil))))) (fNx))) (fSeq (fAsg (fOp addD (fOp addD (fC (.int 2)) (fCB (c1 lenD) (fCons (fVar 1) (fNil)))) (fCB (c1 lenD) (fCons (fVar 2) (fNil)))) (gNm 7)) (fSeq (fAsg (fOp addD (fVar 7) (fCB (c1 lenD) (fCons (fVar 3) (fNil)))) (gNm 8)) (fSeq (fDrop (fLamC m_check_net_rows [9, 10] (fIs TN.str (fVar 10)) 3 (bnd (fC (.str ("in" : Str))) fun x => bnd (fVar 1) fun y => ret [x, y]))) (fSeq (fDrop (fLamC m_check_net_rows [9, 10] (fCall 2 m_is_net_flop (fCons (fVar 10) (fCons (fVar 8) (fNil)))) 3 (bnd (fC (.str ("flop" : Str))) fun x => bnd (fVar 2) fun y => ret [x, y]))) (fSeq (fDrop (fLamC m_check_net_rows [9, 10] (fCall 2 m_is_net_node (fCons (fVar 10) (fCons (fOp addD (fVar 7) (fVar 9)) (fNil)))) 3 (bnd (fC (.str ("node" : Str))) fun x => bnd (fVar 3) fun y => ret [x, y]))) (fSeq (fDrop (fLamC m_check_net_rows [9, 10] (fCall 2 m_is_net_output (fCons (fVar 10) (fCons (fVar 8) (fNil)))) 3 (bnd (fC (.str ("out" : Str))) fun x => bnd (fVar 4) fun y => ret [x, y]))) (fSeq (fSetF 32 20 (fVar 0) (fVar 1)) (fSeq (fSetF 32 41 (fVar 0) (fVar 2)) (fSeq (fSetF 32 44 (fVar 0) (fVar 3)) (fSetF 32 21 (fVar 0) (fVar 4)))))))))))
def m_Net_init : FM := run false 11 g_Net_init
def g__law_pick : MS := fSeq (fIfS (fAndT (fBl (fOp eqD (fOp ixD (fVar 0) (fC (.int 2))) (fC (.int 0)))) (fBl (fOp ltD (fOp ixD (fVar 0) (fC (.int 1))) (fCB (c1 lenD) (fCons (fOp ixD (fVar 0) (fC (.int 0))) (fNil)))))) (fSeq (fAsg (fCB (c1 absD) (fCons (fOp ixD (fOp ixD (fVar 0) (fC (.int 0))) (fOp ixD (fVar 0) (fC (.int 1)))) (fNil))) (gNm 2)) (fSeq (fSub (fOp addD (fOp ixD (fVar 0) (fC (.int 1))) (fC (.int 1))) (fVar 0) (fC (.int 1))) (fIfS (fBl (fOp geD (fVar 2) (fOp (i2 powI) (fC (.int 10)) (fC (.int 18))))) (fSub (fVar 2) (fVar 0) (fC (.int 2))) (fSub (fOp addD (fOp (i2 modI) (fCB (c1 intD) (fCons (fOp addD (fOp mulU (fOp ixD (fVar 0) (fC (.int 3))) (fC (.int 48271))) (fVar 2)) (fNil))) (fC (.int 2147483646))) (fC (.int 1))) (fVar 0) (fC (.int 3)))))) (fNx)) (fSeq (fIfS (fBl (fOp gtD (fOp ixD (fVar 0) (fC (.int 2))) (fC (.int 0)))) (fSeq (fAsg (fOp (i2 modI) (fCB (c1 intD) (fCons (fOp ixD (fVar 0) (fC (.int 2))) (fNil))) (fVar 1)) (gNm 3)) (fSeq (fSub (fOp (i2 fdivI) (fOp ixD (fVar 0) (fC (.int 2))) (fVar 1)) (fVar 0) (fC (.int 2))) (fRet (fVar 3)))) (fNx)) (fSeq (fSub (fOp (i2 modI) (fCB (c1 intD) (fCons (fOp mulU (fOp ixD (fVar 0) (fC (.int 3))) (fC (.int 48271))) (fNil))) (fC (.int 2147483647))) (fVar 0) (fC (.int 3))) (fRet (fOp (i2 modI) (fCB (c1 intD) (fCons (fOp addD (fOp (i2 fdivI) (fOp ixD (fVar 0) (fC (.int 3))) (fC (.int 5))) (fOp (i2 modI) (fCB (c1 intD) (fCons (fOp mulU (fOp ixD (fVar 0) (fC (.int 3))) (fOp ixD (fVar 0) (fC (.int 3)))) (fNil))) (fC (.int 2147483629)))) (fNil))) (fVar 1)))))
def m__law_pick : FM := run false 4 g__law_pick
def g_taken_place : MS := fSeq (fPar3 4 5 6 (fCons (fMeth0 38 m_QueuePlace_room (fVar 1)) (fCons (fOwn (fNil)) (fCons (fOwn (fNil)) (fNil))))) (fSeq (fFor (fRng1 (fVar 4)) (gNm 7) (fSeq (fAsg (fOp ltD (fOp addD (fVar 7) (fVar 2)) (fVar 4)) (gNm 8)) (fSeq (fDrop (fApp (fOL (fVar 5)) (fMeth 33 3 m_NodeMaker_pick (fVar 0) (fCons (fVar 3) (fCons (fIf (fTru (fVar 8)) (fOp ixD (fFld 53 (fVar 1)) (fOp addD (fVar 7) (fVar 2))) (fC (.int 0))) (fCons (fOp ixD (fFld 53 (fVar 1)) (fVar 7)) (fNil))))))) (fSeq (fAsg (fIf (fTru (fVar 8)) (fOp ixD (fFld 54 (fVar 1)) (fOp addD (fVar 7) (fVar 2))) (fOp mulU (fTup (fCons (fC (.int 0)) (fNil))) (fMeth0 38 m_QueuePlace_width (fVar 1)))) (gNm 9)) (fDrop (fApp (fOL (fVar 6)) (fCB (c1 tupleD) (fCons (fLc (fRng1 (fMeth0 38 m_QueuePlace_width (fVar 1))) (gNm 10) (ret true) (fMeth 33 3 m_NodeMaker_pick (fVar 0) (fCons (fVar 3) (fCons (fOp ixD (fVar 9) (fVar 10)) (fCons (fOp ixD (fOp ixD (fFld 54 (fVar 1)) (fVar 7)) (fVar 10)) (fNil))))) [10]) (fNil))))))))) (fRet (fCall 2 (makeD false 38 m_QueuePlace_init) (fCons (fVar 5) (fCons (fVar 6) (fNil))))))
def m_taken_place : FM := run false 11 g_taken_place
def g__law_bits : MS := fRet (fCB (c1 tupleD) (fCons (fLc (fRng1 (fVar 1)) (gNm 2) (ret true) (fCall 2 m__law_pick (fCons (fVar 0) (fCons (fC (.int 2)) (fNil)))) [2]) (fNil)))
def m__law_bits : FM := run false 3 g__law_bits
def g_queue_names : MS := fSeq (fAsg (fLc (fRng1 (fVar 1)) (gNm 4) (ret true) (fOp addD (fOp addD (fVar 0) (fC (.str (".more" : Str)))) (fCB (c1 strD) (fCons (fVar 4) (fNil)))) [4]) (gNm 3)) (fRet (fOp addD (fVar 3) (fLc2 (fRng1 (fVar 1)) (gNm 4) (ret true) (fRng1 (fVar 2)) (gNm 5) (ret true) (fOp addD (fOp addD (fOp addD (fOp addD (fVar 0) (fC (.str ("." : Str)))) (fCB (c1 strD) (fCons (fVar 4) (fNil)))) (fC (.str ("." : Str)))) (fCB (c1 strD) (fCons (fVar 5) (fNil)))) [4, 5] [5])))
def m_queue_names : FM := run false 6 g_queue_names
def g_queue_sources : MS := fRet (fOp addD (fCB (c1 listD) (fCons (fFld 53 (fVar 0)) (fNil))) (fLc2 (fSrc (fFld 54 (fVar 0))) (gNm 1) (ret true) (fSrc (fVar 1)) (gNm 2) (ret true) (fVar 2) [1, 2] [2]))
def m_queue_sources : FM := run false 3 g_queue_sources
def g__law_told : MS := fSeq (fAsg (fLc (fRng1 (fVar 1)) (gNm 4) (ret true) (fCB (c1 intD) (fCons (fOp gtD (fCB (c1 lenD) (fCons (fVar 0) (fNil))) (fVar 4)) (fNil))) [4]) (gNm 3)) (fSeq (fFor (fRng1 (fVar 1)) (gNm 4) (fSeq (fAsg (fOp ixD (fOp addD (fCB (c1 listD) (fCons (fVar 0) (fNil))) (fOp mulU (fLst (fCons (fC (.int 0)) (fNil))) (fVar 1))) (fVar 4)) (gNm 5)) (fAsg (fOp addD (fVar 3) (fLc (fRng1 (fVar 2)) (gNm 6) (ret true) (fOp andD (fOp (i2 shrI) (fVar 5) (fVar 6)) (fC (.int 1))) [6])) (gNm 3)))) (fRet (fCB (c1 tupleD) (fCons (fVar 3) (fNil)))))
def m__law_told : FM := run false 7 g__law_told
def g_node_told : MS := fSeq (fAsg (fC (.int 0)) (gNm 2)) (fSeq (fFor (fRng1 (fCB (c1 lenD) (fCons (fOp ixD (fVar 0) (fC (.int 0))) (fNil)))) (gNm 3) (fAug 2 addI (fOp (i2 shlI) (fOp ixD (fVar 1) (fOp ixD (fOp ixD (fVar 0) (fC (.int 0))) (fVar 3))) (fVar 3)))) (fRet (fOp andD (fOp (i2 shrI) (fOp ixD (fVar 0) (fC (.int 1))) (fVar 2)) (fC (.int 1)))))
def m_node_told : FM := run false 4 g_node_told
def g_net_values : MS := fSeq (fAsg (fCatO (fOp addD (fLst (fCons (fC (.int 0)) (fCons (fC (.int 1)) (fNil)))) (fCB (c1 listD) (fCons (fVar 2) (fNil)))) (fCB (c1 listD) (fCons (fVar 1) (fNil)))) (gNm 3)) (fSeq (fFor (fSrc (fFld 44 (fVar 0))) (gNm 4) (fDrop (fApp (fOL (fVar 3)) (fCall 2 m_node_told (fCons (fVar 4) (fCons (fVar 3) (fNil))))))) (fRet (fVar 3)))
def m_net_values : FM := run false 5 g_net_values
def g_is_bits : MS := fRet (fAnd (fIs TN.tuple (fVar 0)) (fAnd (fOp eqD (fCB (c1 lenD) (fCons (fVar 0) (fNil))) (fVar 1)) (fCB (c1 allD) (fCons (fLc (fSrc (fVar 0)) (gNm 2) (ret true) (fCall 2 m_is_word (fCons (fVar 2) (fCons (fC (.int 1)) (fNil)))) [2]) (fNil)))))
def m_is_bits : FM := run false 3 g_is_bits
def g_net_cycle : MS := fSeq (fIfS (fOrT (fNotT (fTru (fCall 2 m_is_bits (fCons (fVar 1) (fCons (fCB (c1 lenD) (fCons (fFld 41 (fVar 0)) (fNil))) (fNil)))))) (fNotT (fTru (fCall 2 m_is_bits (fCons (fVar 2) (fCons (fCB (c1 lenD) (fCons (fFld 20 (fVar 0)) (fNil))) (fNil))))))) (fRaise 6 (fTup (fCons (fC (.str ("row" : Str))) (fCons (fC .non) (fNil))))) (fNx)) (fSeq (fAsg (fCall 3 m_net_values (fCons (fVar 0) (fCons (fVar 1) (fCons (fVar 2) (fNil))))) (gNm 3)) (fRet (fTup (fCons (fCB (c1 tupleD) (fCons (fLc (fSrc (fFld 21 (fVar 0))) (gTp 2 (gCn (gNm 4) (gCn (gNm 5) (gNl)))) (ret true) (fOp ixD (fVar 3) (fVar 5)) [4, 5]) (fNil))) (fCons (fCB (c1 tupleD) (fCons (fLc (fSrc (fFld 41 (fVar 0))) (gTp 3 (gCn (gNm 4) (gCn (gNm 6) (gCn (gNm 5) (gNl))))) (ret true) (fOp ixD (fVar 3) (fVar 5)) [4, 6, 5]) (fNil))) (fNil))))))
def m_net_cycle : FM := run false 7 g_net_cycle
def g__law_same (m_rec : FM) : MS := fSeq (fIfS (fBl (fOp isN (fVar 1) (fC .non))) (fRet (fOp isN (fVar 0) (fC .non))) (fNx)) (fSeq (fIfS (fTru (fIs TN.bool (fVar 1))) (fRet (fAnd (fIs TN.bool (fVar 0)) (fOp eqD (fVar 0) (fVar 1)))) (fNx)) (fSeq (fIfS (fTru (fIs TN.int (fVar 1))) (fRet (fAnd (fIs TN.int (fVar 0)) (fAnd (fNot (fIs TN.bool (fVar 0))) (fOp eqD (fVar 0) (fVar 1))))) (fNx)) (fSeq (fIfS (fTru (fIs TN.str (fVar 1))) (fRet (fAnd (fIs TN.str (fVar 0)) (fOp eqD (fVar 0) (fVar 1)))) (fNx)) (fSeq (fIfS (fOrT (fAndT (fTru (fIs TN.list (fVar 1))) (fNotT (fTru (fIs TN.list (fVar 0))))) (fAndT (fTru (fIs TN.tuple (fVar 1))) (fNotT (fTru (fIs TN.tuple (fVar 0)))))) (fRet (fC (.bl false))) (fNx)) (fRet (fAnd (fOp eqD (fCB (c1 lenD) (fCons (fVar 0) (fNil))) (fCB (c1 lenD) (fCons (fVar 1) (fNil)))) (fOp eqD (fLc (fRng1 (fCB (c1 lenD) (fCons (fVar 1) (fNil)))) (gNm 2) (fNotT (fTru (fCall 2 m_rec (fCons (fOp ixD (fVar 0) (fVar 2)) (fCons (fOp ixD (fVar 1) (fVar 2)) (fNil)))))) (fC (.int 1)) [2]) (fLst (fNil)))))))))
def m__law_same : Nat → FM
  | 0 => fun _ _ => none
  | n + 1 => run false 3 (g__law_same (m__law_same n))
def g_has_words : MS := fRet (fOp ixD (fFld 53 (fVar 0)) (fOp subD (fVar 1) (fC (.int 1))))
def m_has_words : FM := run false 2 g_has_words
def g_has_place_for : MS := fRet (fMeth 33 1 m_NodeMaker_turned (fVar 0) (fCons (fOp ixD (fFld 53 (fVar 1)) (fOp subD (fMeth0 38 m_QueuePlace_room (fVar 1)) (fVar 2))) (fNil)))
def m_has_place_for : FM := run false 3 g_has_place_for
def g_queue_bits : MS := fSeq (fAsg (fLcO (fRng1 (fVar 1)) (gNm 4) (ret true) (fCB (c1 intD) (fCons (fOp ltD (fVar 4) (fCB (c1 lenD) (fCons (fVar 0) (fNil)))) (fNil))) [4]) (gNm 3)) (fSeq (fFor (fRng1 (fVar 1)) (gNm 4) (fSeq (fAsg (fIf (fBl (fOp ltD (fVar 4) (fCB (c1 lenD) (fCons (fVar 0) (fNil))))) (fOp ixD (fVar 0) (fVar 4)) (fC (.int 0))) (gNm 5)) (fAugX 3 (fLc (fRng1 (fVar 2)) (gNm 6) (ret true) (fOp andD (fOp (i2 shrI) (fVar 5) (fVar 6)) (fC (.int 1))) [6])))) (fRet (fCB (c1 tupleD) (fCons (fVar 3) (fNil)))))
def m_queue_bits : FM := run false 7 g_queue_bits
def g_queue_of_bits : MS := fSeq (fAsg (fCB (c1 sumD2) (fCons (fSl (fVar 0) (ret none) (fPart (fVar 1))) (fNil))) (gNm 3)) (fSeq (fAsg (fOwn (fNil)) (gNm 4)) (fSeq (fFor (fRng1 (fVar 1)) (gNm 5) (fSeq (fAsg (fOp addD (fVar 1) (fOp mulU (fVar 5) (fVar 2))) (gNm 6)) (fDrop (fApp (fOL (fVar 4)) (fCB (c1 sumD2) (fCons (fLc (fRng1 (fVar 2)) (gNm 7) (ret true) (fOp (i2 shlI) (fOp ixD (fVar 0) (fOp addD (fVar 6) (fVar 7))) (fVar 7)) [7]) (fNil))))))) (fSeq (fIfS (fBl (fOp neD (fCB (c1 tupleD) (fCons (fVar 0) (fNil))) (fCall 3 m_queue_bits (fCons (fSl (fVar 4) (ret none) (fPart (fVar 3))) (fCons (fVar 1) (fCons (fVar 2) (fNil))))))) (fRet (fC .non)) (fNx)) (fRet (fCB (c1 tupleD) (fCons (fSl (fVar 4) (ret none) (fPart (fVar 3))) (fNil)))))))
def m_queue_of_bits : FM := run false 8 g_queue_of_bits
def g__law_back : MS := fSeq (fFor (fRng1 (fOp addD (fVar 1) (fC (.int 1)))) (gNm 3) (fSeq (fAsg (fOwn (fNil)) (gNm 4)) (fSeq (fFor (fRng1 (fVar 3)) (gNm 5) (fDrop (fApp (fOL (fVar 4)) (fCB (c1 sumD2) (fCons (fLc (fRng1 (fVar 2)) (gNm 6) (ret true) (fOp mulU (fOp ixD (fVar 0) (fOp addD (fOp addD (fVar 1) (fOp mulU (fVar 5) (fVar 2))) (fVar 6))) (fOp (i2 shlI) (fC (.int 1)) (fVar 6))) [6]) (fNil)))))) (fIfS (fBl (fOp eqD (fCall 3 m__law_told (fCons (fVar 4) (fCons (fVar 1) (fCons (fVar 2) (fNil))))) (fCB (c1 tupleD) (fCons (fVar 0) (fNil))))) (fRet (fCB (c1 tupleD) (fCons (fVar 4) (fNil)))) (fNx))))) (fRet (fC .non))
def m__law_back : FM := run false 7 g__law_back
def g_law : MS := fSeq (fAsg (fCall 1 m__law_start (fCons (fVar 0) (fNil))) (gNm 1)) (fSeq (fAsg (fOp addD (fC (.int 1)) (fCall 2 m__law_pick (fCons (fVar 1) (fCons (fC (.int 4)) (fNil))))) (gNm 2)) (fSeq (fAsg (fOp addD (fC (.int 1)) (fCall 2 m__law_pick (fCons (fVar 1) (fCons (fC (.int 3)) (fNil))))) (gNm 3)) (fSeq (fAsg (fOp addD (fC (.int 1)) (fCall 2 m__law_pick (fCons (fVar 1) (fCons (fCB (c2 min2D) (fCons (fC (.int 3)) (fCons (fVar 2) (fNil)))) (fNil))))) (gNm 4)) (fSeq (fAsg (fOp addD (fC (.int 1)) (fCall 2 m__law_pick (fCons (fVar 1) (fCons (fCB (c2 min2D) (fCons (fC (.int 3)) (fCons (fVar 2) (fNil)))) (fNil))))) (gNm 5)) (fSeq (fAsg (fC (.int 4)) (gNm 6)) (fSeq (fAsg (fRgT (fRgA2 (fVar 6) (fOp addD (fVar 6) (fVar 2)))) (gNm 7)) (fSeq (fAsg (fLc (fRng1 (fVar 2)) (gNm 28) (ret true) (fRgT (fRgA2 (fOp addD (fOp addD (fVar 6) (fVar 2)) (fOp mulU (fVar 28) (fVar 3))) (fOp addD (fOp addD (fOp addD (fVar 6) (fVar 2)) (fOp mulU (fVar 28) (fVar 3))) (fVar 3)))) [28]) (gNm 8)) (fSeq (fAsg (fOp addD (fOp addD (fVar 6) (fVar 2)) (fOp mulU (fVar 2) (fVar 3))) (gNm 9)) (fSeq (fAsg (fLc (fRng1 (fVar 5)) (gNm 28) (ret true) (fRgT (fRgA2 (fOp addD (fVar 9) (fOp mulU (fVar 28) (fVar 3))) (fOp addD (fOp addD (fVar 9) (fOp mulU (fVar 28) (fVar 3))) (fVar 3)))) [28]) (gNm 10)) (fSeq (fAsg (fCall 1 (makeA 33 m_NodeMaker_init) (fCons (fOp addD (fVar 9) (fOp mulU (fVar 5) (fVar 3))) (fNil))) (gNm 11)) (fSeq (fAsg (fCall 2 (makeD false 38 m_QueuePlace_init) (fCons (fVar 7) (fCons (fVar 8) (fNil)))) (gNm 12)) (fSeq (fAsg (fCall 4 m_put_place (fCons (fVar 11) (fCons (fCall 4 m_taken_place (fCons (fVar 11) (fCons (fVar 12) (fCons (fVar 4) (fCons (fC (.int 2)) (fNil)))))) (fCons (fVar 10) (fCons (fC (.int 3)) (fNil)))))) (gNm 13)) (fSeq (fAsg (fOp addD (fOp addD (fCall 1 m_queue_sources (fCons (fVar 13) (fNil))) (fLst (fCons (fCall 2 m_has_words (fCons (fVar 12) (fCons (fVar 4) (fNil)))) (fCons (fCall 3 m_has_place_for (fCons (fVar 11) (fCons (fVar 12) (fCons (fVar 5) (fNil))))) (fNil))))) (fLc (fRng1 (fVar 2)) (gNm 28) (ret true) (fCall 3 m_is_length (fCons (fVar 11) (fCons (fVar 12) (fCons (fVar 28) (fNil))))) [28])) (gNm 14)) (fSeq (fAsg (fCall 4 (makeD false 32 m_Net_init) (fCons (fCB (c1 tupleD) (fCons (fOp mulU (fLst (fCons (fC (.str ("i" : Str))) (fNil))) (fOp subD (fOp addD (fVar 9) (fOp mulU (fVar 5) (fVar 3))) (fC (.int 2)))) (fNil))) (fCons (fTup (fNil)) (fCons (fCB (c1 tupleD) (fCons (fFld 44 (fVar 11)) (fNil))) (fCons (fCB (c1 tupleD) (fCons (fLc (fSrc (fVar 14)) (gNm 29) (ret true) (fTup (fCons (fC (.str ("o" : Str))) (fCons (fVar 29) (fNil)))) [29]) (fNil))) (fNil)))))) (gNm 15)) (fSeq (fIfS (fOrT (fBl (fOp neD (fMeth0 38 m_QueuePlace_room (fVar 12)) (fVar 2))) (fOrT (fBl (fOp neD (fMeth0 38 m_QueuePlace_width (fVar 12)) (fVar 3))) (fBl (fOp neD (fCall 1 m_queue_sources (fCons (fVar 12) (fNil))) (fRgL (fRgA2 (fC (.int 4)) (fVar 9))))))) (fRet (fC (.bl false))) (fNx)) (fSeq (fFor (fRng1 (fC (.int 14))) (gNm 16) (fSeq (fAsg (fCB (c1 tupleD) (fCons (fLc (fRng1 (fCall 2 m__law_pick (fCons (fVar 1) (fCons (fOp addD (fVar 2) (fC (.int 1))) (fNil))))) (gNm 28) (ret true) (fCall 2 m__law_pick (fCons (fVar 1) (fCons (fOp (i2 shlI) (fC (.int 1)) (fVar 3)) (fNil)))) [28]) (fNil))) (gNm 17)) (fSeq (fAsg (fLc (fRng1 (fVar 5)) (gNm 28) (ret true) (fCall 2 m__law_pick (fCons (fVar 1) (fCons (fOp (i2 shlI) (fC (.int 1)) (fVar 3)) (fNil)))) [28]) (gNm 18)) (fSeq (fAsg (fOp mulU (fCB (c1 intD) (fCons (fOp geD (fCB (c1 lenD) (fCons (fVar 17) (fNil))) (fVar 4)) (fNil))) (fCall 2 m__law_pick (fCons (fVar 1) (fCons (fC (.int 2)) (fNil))))) (gNm 19)) (fSeq (fAsg (fOp mulU (fCB (c1 intD) (fCons (fOp leD (fOp addD (fCB (c1 lenD) (fCons (fVar 17) (fNil))) (fVar 5)) (fVar 2)) (fNil))) (fCall 2 m__law_pick (fCons (fVar 1) (fCons (fC (.int 2)) (fNil))))) (gNm 20)) (fSeq (fAsg (fOp addD (fSl (fVar 17) (fPart (fOp mulU (fVar 4) (fVar 19))) (ret none)) (fOp mulU (fCB (c1 tupleD) (fCons (fVar 18) (fNil))) (fVar 20))) (gNm 21)) (fSeq (fAsg (fOp addD (fTup (fCons (fVar 19) (fCons (fVar 20) (fNil)))) (fCall 3 m__law_told (fCons (fVar 17) (fCons (fVar 2) (fCons (fVar 3) (fNil)))))) (gNm 22)) (fSeq (fFor (fSrc (fVar 18)) (gNm 23) (fAsg (fOp addD (fVar 22) (fCB (c1 tupleD) (fCons (fLc (fRng1 (fVar 3)) (gNm 30) (ret true) (fOp andD (fOp (i2 shrI) (fVar 23) (fVar 30)) (fC (.int 1))) [30]) (fNil)))) (gNm 22))) (fSeq (fAsg (fOp ixD (fCall 3 m_net_cycle (fCons (fVar 15) (fCons (fTup (fNil)) (fCons (fVar 22) (fNil))))) (fC (.int 0))) (gNm 24)) (fSeq (fAsg (fOp addD (fTup (fCons (fCB (c1 intD) (fCons (fOp geD (fCB (c1 lenD) (fCons (fVar 17) (fNil))) (fVar 4)) (fNil))) (fCons (fCB (c1 intD) (fCons (fOp leD (fOp addD (fCB (c1 lenD) (fCons (fVar 17) (fNil))) (fVar 5)) (fVar 2)) (fNil))) (fNil)))) (fCB (c1 tupleD) (fCons (fLc (fRng1 (fVar 2)) (gNm 28) (ret true) (fCB (c1 intD) (fCons (fOp eqD (fCB (c1 lenD) (fCons (fVar 17) (fNil))) (fVar 28)) (fNil))) [28]) (fNil)))) (gNm 25)) (fSeq (fIfS (fBl (fOp neD (fVar 24) (fOp addD (fCall 3 m__law_told (fCons (fVar 21) (fCons (fVar 2) (fCons (fVar 3) (fNil))))) (fVar 25)))) (fRet (fC (.bl false))) (fNx)) (fSeq (fIfS (fOrT (fBl (fOp neD (fCall 3 m_queue_bits (fCons (fVar 17) (fCons (fVar 2) (fCons (fVar 3) (fNil))))) (fCall 3 m__law_told (fCons (fVar 17) (fCons (fVar 2) (fCons (fVar 3) (fNil))))))) (fNotT (fTru (fCall 2 (m__law_same 8) (fCons (fCall 3 m_queue_of_bits (fCons (fCall 3 m__law_told (fCons (fVar 17) (fCons (fVar 2) (fCons (fVar 3) (fNil))))) (fCons (fVar 2) (fCons (fVar 3) (fNil))))) (fCons (fVar 17) (fNil))))))) (fRet (fC (.bl false))) (fNx)) (fSeq (fAsg (fCall 2 m__law_bits (fCons (fVar 1) (fCons (fOp mulU (fVar 2) (fOp addD (fC (.int 1)) (fVar 3))) (fNil)))) (gNm 26)) (fIfS (fNotT (fTru (fCall 2 (m__law_same 8) (fCons (fCall 3 m_queue_of_bits (fCons (fVar 26) (fCons (fVar 2) (fCons (fVar 3) (fNil))))) (fCons (fCall 3 m__law_back (fCons (fVar 26) (fCons (fVar 2) (fCons (fVar 3) (fNil))))) (fNil)))))) (fRet (fC (.bl false))) (fNx))))))))))))))) (fSeq (fAsg (fLc (fRng1 (fVar 2)) (gNm 28) (ret true) (fOp addD (fC (.str ("q.more" : Str))) (fCB (c1 strD) (fCons (fVar 28) (fNil)))) [28]) (gNm 27)) (fSeq (fFor (fRng1 (fVar 2)) (gNm 28) (fAsg (fOp addD (fVar 27) (fLc (fRng1 (fVar 3)) (gNm 30) (ret true) (fOp addD (fOp addD (fOp addD (fC (.str ("q." : Str))) (fCB (c1 strD) (fCons (fVar 28) (fNil)))) (fC (.str ("." : Str)))) (fCB (c1 strD) (fCons (fVar 30) (fNil)))) [30])) (gNm 27))) (fRet (fOp eqD (fCall 3 m_queue_names (fCons (fC (.str ("q" : Str))) (fCons (fVar 2) (fCons (fVar 3) (fNil))))) (fVar 27)))))))))))))))))))))
def m_law : FM := run false 31 g_law
end
end LW
set_option Elab.async false
set_option maxRecDepth 100000
set_option maxHeartbeats 4000000
set_option linter.all false
set_option autoImplicit false
namespace LW
open PySem L2 VM
/-! ### rows of nets -/
def dSrc (ns : List Int) : D := .tup (ns.map D.int)
def dNode (p : List Int × Int) : D := .tup [dSrc p.1, .int p.2]
def dOut (p : Str × Int) : D := .tup [.str p.1, .int p.2]
def dFlop (p : Str × Int × Int) : D := .tup [.str p.1, .int p.2.1, .int p.2.2]
section
variable {s : Sto} (hs : Low s)
include hs
theorem count_int (i : Int) : m_is_count s [.int i] = some (.ok (.bl (decide (0 ≤ i))) s) := by
  by_cases h : 0 ≤ i <;> simp [m_is_count, VM.run, g_is_count, startD, finB hs, h]
theorem word_int (i w : Int) (h0 : 0 ≤ w) (h1 : w ≤ 64) : m_is_word s [.int i, .int w] = some (.ok (.bl (decide (0 ≤ i) && decide (i < 2 ^ w.toNat))) s) := by
  have hw : shOk 1 w = true := (shOk_iff _ _).mpr ⟨by omega, by omega, by omega⟩
  by_cases h : 0 ≤ i <;> simp [m_is_word, VM.run, g_is_word, startD, count_int hs, finB hs, h, shlI, hw]
theorem nsrc_int (i w : Int) : m_is_net_source s [.int i, .int w] = some (.ok (.bl (decide (0 ≤ i) && decide (i < w))) s) := by
  by_cases h : 0 ≤ i <;> simp [m_is_net_source, VM.run, g_is_net_source, startD, count_int hs, finB hs, h]
theorem nout_ok (p : Str × Int) (w : Int) (h0 : 0 ≤ p.2) (h1 : p.2 < w) : m_is_net_output s [dOut p, .int w] = some (.ok (.bl true) s) := by
  simp [m_is_net_output, VM.run, g_is_net_output, startD, dOut, nsrc_int hs, finB hs, h0, h1]
theorem nflop_ok (p : Str × Int × Int) (w : Int) (h : p.2.1 = 0 ∨ p.2.1 = 1) (h0 : 0 ≤ p.2.2) (h1 : p.2.2 < w) : m_is_net_flop s [dFlop p, .int w] = some (.ok (.bl true) s) := by
  have h2 : 0 ≤ p.2.1 := by omega
  have h3 : p.2.1 < 2 := by omega
  simp [m_is_net_flop, VM.run, g_is_net_flop, startD, dFlop, nsrc_int hs, word_int hs, finB hs, h0, h1, h2, h3]
theorem nnode_ok (p : List Int × Int) (w : Int) (hl : 1 ≤ p.1.length) (hl3 : p.1.length ≤ 3) (hsr : ∀ i ∈ p.1, 0 ≤ i ∧ i < w) (h0 : 0 ≤ p.2) (h1 : p.2 < 2 ^ 2 ^ p.1.length) : m_is_net_node s [dNode p, .int w] = some (.ok (.bl true) s) := by
  obtain ⟨ns, t⟩ := p
  have ha : ns.all (fun i => decide (0 ≤ i) && decide (i < w)) = true := List.all_eq_true.mpr fun i hi => by
    obtain ⟨a, b⟩ := hsr i hi
    simp [a, b]
  have e1 : (1 : Int) ≤ (ns.length : Int) := by have : 1 ≤ ns.length := hl; omega
  have e3 : (ns.length : Int) ≤ 3 := by have : ns.length ≤ 3 := hl3; omega
  have e4 : t < 2 ^ (2 ^ ns.length : Int).toNat := by
    have h1 : t < 2 ^ 2 ^ ns.length := h1
    have : ((2 : Int) ^ ns.length).toNat = 2 ^ ns.length := by
      rw [show ((2 : Int) ^ ns.length) = ((2 ^ ns.length : Nat) : Int) by push_cast; rfl, Int.toNat_natCast]
    rw [this]
    exact h1
  have e5 : (0 : Int) ≤ 2 ^ ns.length := Int.pow_nonneg (by decide)
  have e6 : (2 : Int) ^ ns.length ≤ 64 := by
    have : ns.length ≤ 3 := hl3
    calc (2 : Int) ^ ns.length ≤ 2 ^ 3 := by
          rcases (show ns.length = 0 ∨ ns.length = 1 ∨ ns.length = 2 ∨ ns.length = 3 by omega) with e | e | e | e <;> rw [e] <;> decide
      _ ≤ 64 := by decide
  have h0 : 0 ≤ t := h0
  have eL : ns.length ≤ LIM := Nat.le_of_lt (lt_LIM (by have : ns.length ≤ 3 := hl3; omega))
  have esh : shOk 1 (ns.length : Int) = true := shOk_of (by decide) (by decide) (by omega) (by omega)
  simp [m_is_net_node, VM.run, g_is_net_node, startD, dNode, dSrc, fLc_ap, finB hs, e1, e3, eL]
  rw [lcL_ml (F := fun (i : Int) => D.bl (decide (0 ≤ i) && decide (i < w)))]
  rotate_left
  · intro i hi
    simp [nsrc_int hs]
  simp [ha, word_int hs, e5, e6, h0, e4, shlI, esh, finB hs]
end
end LW
set_option Elab.async false
set_option maxRecDepth 100000
set_option maxHeartbeats 4000000
set_option linter.all false
set_option autoImplicit false
namespace LW
open PySem L2 VM
/-! ### a net is made -/
theorem smallI_len {n : Nat} (h : n < 100000) : smallI (n : Int) = true := (smallI_iff _).mpr ⟨by omega, by omega⟩
section
variable {s : Sto} (hs : Low s)
include hs
theorem rows_ok {α : Type} {l : List α} {G : α → D} {d : D} {L : FM} {kind : Str} (hl : l.length < 100000) (hL : ∀ k (hk : k < l.length), L s [.int (k : Int), G l[k]] = some (.ok (.bl true) s)) :
    m_check_net_rows d L s [.str kind, .tup (l.map G), d] = some (.ok .non s) := by
  have hsm := smallI_len hl
  simp [m_check_net_rows, VM.run, g_check_net_rows, startD, hsm]
  generalize hX : forL _ _ _ _ _ _ = X
  obtain ⟨ρ', s', rfl, rfl, _⟩ : ∃ ρ' s', X = some (.nx ρ' s') ∧ s = s' ∧ ∃ x, ρ' = [some (.str kind), some (.tup (l.map G)), some d, x] := by
    subst hX
    refine forL_rngP (P := fun _ ρ s' => s = s' ∧ ∃ x, ρ = [some (.str kind), some (.tup (l.map G)), some d, x]) ⟨rfl, none, rfl⟩ fun i hi ρ s' hp => ?_
    obtain ⟨rfl, x, rfl⟩ := hp
    refine ⟨_, rfl, ?_⟩
    have := hL i hi
    have e : (l.map G)[i]? = some (G l[i]) := by rw [List.getElem?_map, List.getElem?_eq_getElem hi]; rfl
    simp [fLam_ap, atI_nat', e, this]
  simp [finN hs]
end
end LW
set_option Elab.async false
set_option maxRecDepth 100000
set_option maxHeartbeats 4000000
set_option linter.all false
set_option autoImplicit false
namespace LW
open PySem L2 VM
theorem lows_mapT {α : Type} {n : Nat} {G : α → D} (h : ∀ a, low n (G a) = true) : ∀ l : List α, lows n (l.map G) = true
  | [] => rfl
  | a :: l => by rw [List.map_cons, lows, h a, lows_mapT h l]; rfl
theorem low_dSrc (n : Nat) (l : List Int) : low n (dSrc l) = true := by
  unfold dSrc
  rw [low]
  exact lows_mapT (fun _ => rfl) l
theorem low_dNode (n : Nat) (p : List Int × Int) : low n (dNode p) = true := by simp only [dNode, low, lows, low_dSrc, Bool.and_self]
theorem low_dOut (n : Nat) (p : Str × Int) : low n (dOut p) = true := rfl
theorem low_dFlop (n : Nat) (p : Str × Int × Int) : low n (dFlop p) = true := rfl
structure NodeOk (w : Int) (p : List Int × Int) : Prop where
  l1 : 1 ≤ p.1.length
  l3 : p.1.length ≤ 3
  src : ∀ i ∈ p.1, 0 ≤ i ∧ i < w
  t0 : 0 ≤ p.2
  t1 : p.2 < 2 ^ 2 ^ p.1.length
structure NetOk (names : List Str) (flops : List (Str × Int × Int)) (nodes : List (List Int × Int)) (outs : List (Str × Int)) : Prop where
  l1 : names.length < 100000
  l2 : flops.length < 100000
  l3 : nodes.length < 100000
  l4 : outs.length < 100000
  hf : ∀ p ∈ flops, (p.2.1 = 0 ∨ p.2.1 = 1) ∧ 0 ≤ p.2.2 ∧ p.2.2 < 2 + (names.length : Int) + (flops.length : Int) + (nodes.length : Int)
  hn : ∀ k (hk : k < nodes.length), NodeOk (2 + (names.length : Int) + (flops.length : Int) + (k : Int)) nodes[k]
  ho : ∀ p ∈ outs, 0 ≤ p.2 ∧ p.2 < 2 + (names.length : Int) + (flops.length : Int) + (nodes.length : Int)
section
variable {s : Sto} (hs : Low s)
include hs
theorem rows_all {α : Type} {l : List α} {G : α → D} {dd : Addr → Addr → Str → List V → D} {L : FM} {kind : Str} (hl : l.length < 100000) (hL : ∀ k (hk : k < l.length), L s [.int (k : Int), G l[k]] = some (.ok (.bl true) s)) :
    (allF fun a c q us => m_check_net_rows (dd a c q us) L s [.str kind, .tup (l.map G), dd a c q us]) = some (.ok .non s) := allF_eq fun a c q us => rows_ok hs hl hL
def netD (names : List Str) (flops : List (Str × Int × Int)) (nodes : List (List Int × Int)) (outs : List (Str × Int)) : D := .ins 32 [20, 41, 44, 21] [.tup (names.map .str), .tup (flops.map dFlop), .tup (nodes.map dNode), .tup (outs.map dOut)]
theorem net_make {names : List Str} {flops : List (Str × Int × Int)} {nodes : List (List Int × Int)} {outs : List (Str × Int)} (ok : NetOk names flops nodes outs) :
    makeD false 32 m_Net_init s [.tup (names.map .str), .tup (flops.map dFlop), .tup (nodes.map dNode), .tup (outs.map dOut)] = some (.ok (netD names flops nodes outs) s) := by
  have hs1 : Low (s ++ [.ins 32 [] []]) := hs.snoc rfl
  unfold makeD
  simp [m_Net_init, VM.run, g_Net_init, startD, forL_cons, forL_nil]
  rw [rows_all hs1 (l := names) (G := D.str) ok.l1]
  rotate_left
  · intro k hk
    simp
  simp
  rw [rows_all hs1 (l := flops) (G := dFlop) ok.l2]
  rotate_left
  · intro k hk
    obtain ⟨h1, h2, h3⟩ := ok.hf _ (List.getElem_mem hk)
    simp [nflop_ok hs1 _ _ h1 h2 h3]
  simp
  rw [rows_all hs1 (l := nodes) (G := dNode) ok.l3]
  rotate_left
  · intro k hk
    have h := ok.hn k hk
    simp [nnode_ok hs1 _ _ h.l1 h.l3 h.src h.t0 h.t1]
  simp
  rw [rows_all hs1 (l := outs) (G := dOut) ok.l4]
  rotate_left
  · intro k hk
    obtain ⟨h2, h3⟩ := ok.ho _ (List.getElem_mem hk)
    simp [nout_ok hs1 _ _ h2 h3]
  have lw : ∀ n, lows n [D.tup (names.map .str), .tup (flops.map dFlop), .tup (nodes.map dNode), .tup (outs.map dOut)] = true := fun n => by
    simp only [lows, low, lows_mapT (G := D.str) (fun _ => rfl) names, lows_mapT (low_dFlop n) flops, lows_mapT (low_dNode n) nodes, lows_mapT (low_dOut n) outs, Bool.and_self]
  have ff := finN (kp := false) (hs.snoc (so := .ins 32 [20, 41, 44, 21] [.tup (names.map .str), .tup (flops.map dFlop), .tup (nodes.map dNode), .tup (outs.map dOut)]) (lw _))
  rw [List.length_append, List.length_singleton] at ff
  simp [setF_own, putN_cons, putN_nil, ff]
  exact fin_frz hs (lw _)
end
end LW
set_option Elab.async false
set_option maxRecDepth 100000
set_option maxHeartbeats 4000000
set_option linter.all false
set_option autoImplicit false
namespace LW
open PySem L2 VM
/-! ### the node maker -/
structure Mkr where
  fst : Int
  nodes : List (List Int × Int)
abbrev keyL (p : List Int × Int) : List Key := (p.1 ++ [0 - 1 - p.2]).map Sum.inl
def keyOf (p : List Int × Int) : D := .tup ((p.1 ++ [0 - 1 - p.2]).map D.int)
theorem keyT_of (p : List Int × Int) : keyT (keyOf p) = some (keyL p) := keyT_ints _
theorem keyD_L (p : List Int × Int) : D.tup ((keyL p).map keyD) = keyOf p := by
  unfold keyOf keyL
  rw [List.map_map]
  rfl
theorem keyL_inj {p q : List Int × Int} (h : keyL p = keyL q) : p = q := by
  unfold keyL at h
  have h2 := (List.map_inj_right (fun _ _ e => Sum.inl.inj e)).mp h
  have h3 := List.append_inj' h2 rfl
  obtain ⟨a, b⟩ := p
  obtain ⟨c, d⟩ := q
  obtain ⟨h4, h5⟩ := h3
  simp at h4 h5
  subst h4
  have : b = d := by omega
  subst this
  rfl
def valsFrom {α : Type} : Int → List α → List D
  | _, [] => []
  | i, _ :: l => .int i :: valsFrom (i + 1) l
theorem valsFrom_app {α : Type} {p : α} : ∀ {l : List α} {i : Int}, valsFrom i (l ++ [p]) = valsFrom i l ++ [.int (i + (l.length : Int))]
  | [], i => by simp [valsFrom]
  | a :: l, i => by
    simp only [List.cons_append, valsFrom, valsFrom_app (l := l), List.length_cons]
    rw [show i + 1 + (l.length : Int) = i + ((l.length + 1 : Nat) : Int) by push_cast; omega]
theorem lows_valsFrom {α : Type} {n : Nat} : ∀ {l : List α} {i : Int}, lows n (valsFrom i l) = true
  | [], _ => rfl
  | _ :: l, i => by
    have ih := lows_valsFrom (n := n) (l := l) (i := i + 1)
    simp only [valsFrom, lows, low, ih, Bool.and_self]
theorem idxOf_ne {α : Type} [BEq α] [LawfulBEq α] {a p : α} {l : List α} (e : ¬ a = p) : (a :: l).idxOf p = l.idxOf p + 1 := by
  rw [List.idxOf_cons]
  have : (a == p) = false := by simpa using e
  rw [this]
  rfl
theorem look_vals (p : List Int × Int) : ∀ {l : List (List Int × Int)} {i : Int}, lookT (keyL p) (l.map keyOf) (valsFrom i l) = if p ∈ l then some (.int (i + (l.idxOf p : Int))) else none
  | [], i => by simp [lookT]
  | a :: l, i => by
    simp only [List.map_cons, valsFrom, lookT, keyT_of, Option.some.injEq]
    by_cases e : a = p
    · subst e
      simp
    · have : ¬ keyL a = keyL p := fun h => e (keyL_inj h)
      rw [if_neg this, look_vals p (l := l)]
      have e2 : ¬ p = a := fun z => e z.symm
      by_cases hm : p ∈ l
      · rw [if_pos hm, if_pos (List.mem_cons_of_mem _ hm), idxOf_ne e]
        rw [show i + 1 + (l.idxOf p : Int) = i + ((l.idxOf p + 1 : Nat) : Int) by push_cast; omega]
      · rw [if_neg hm, if_neg (by simp [e2, hm])]
theorem has_keys (p : List Int × Int) : ∀ {l : List (List Int × Int)}, hasT (keyL p) (l.map keyOf) = decide (p ∈ l)
  | [] => by simp [hasT]
  | a :: l => by
    have ih := has_keys p (l := l)
    unfold hasT at ih ⊢
    rw [List.map_cons, List.any_cons, ih, keyT_of]
    by_cases e : a = p
    · subst e; simp
    · have h1 : ¬ keyL a = keyL p := fun h => e (keyL_inj h)
      have e2 : ¬ p = a := fun z => e z.symm
      rw [show decide (some (keyL a) = some (keyL p)) = false from decide_eq_false fun z => h1 (Option.some.inj z)]
      simp [e2]
def Mkr.add (M : Mkr) (p : List Int × Int) : Mkr := if p ∈ M.nodes then M else { M with nodes := M.nodes ++ [p] }
def Mkr.ix (M : Mkr) (p : List Int × Int) : Int := M.fst + (M.nodes.idxOf p : Int)
/-- the store: the tape, the maker, its nodes, its dict, what else is owned -/
def SM (t : SO) (M : Mkr) (post : Sto) : Sto := t :: .ins 33 [39, 44, 45] [.int M.fst, .own 2, .own 3] :: .lst (M.nodes.map dNode) :: .dct true (M.nodes.map keyOf) (valsFrom M.fst M.nodes) :: post
theorem SM_len (t : SO) (M : Mkr) (post : Sto) : (SM t M post).length = post.length + 4 := rfl
theorem low_keyOf (n : Nat) (p : List Int × Int) : low n (keyOf p) = true := by
  unfold keyOf
  rw [low]
  exact lows_mapT (G := D.int) (fun _ => rfl) _
/-- what lies behind the maker holds nothing that is made later -/
def PostOk (t : SO) (post : Sto) : Prop := lowS (post.length + 4) t = true ∧ post.all (lowS (post.length + 4)) = true
theorem SM_low {t : SO} {M : Mkr} {post : Sto} (h : PostOk t post) : Low (SM t M post) := by
  unfold Low
  rw [SM_len]
  unfold SM
  rw [List.all_cons, List.all_cons, List.all_cons, List.all_cons, h.1, h.2]
  simp only [lowS, lows, low, lows_mapT (low_dNode _) M.nodes, lows_valsFrom, Bool.and_true, Bool.true_and]
  simp
end LW
set_option Elab.async false
set_option maxRecDepth 100000
set_option maxHeartbeats 4000000
set_option linter.all false
set_option autoImplicit false
namespace LW
open PySem L2 VM
section
variable {t a b : SO} {f : Int} {ns : List (List Int × Int)} {post : Sto} {src : List Int} {tb : Int}
theorem keyT_p : keyT (D.tup (src.map .int ++ [.int (-1 - tb)])) = some (keyL (src, tb)) := by
  have := keyT_of (src, tb)
  simpa [keyOf] using this
theorem nin_met : ninT (t :: a :: b :: .dct true (ns.map keyOf) (valsFrom f ns) :: post) (.tup (src.map .int ++ [.int (-1 - tb)])) (.own 3) = some (.bl (!decide ((src, tb) ∈ ns))) := by
  unfold ninT
  rw [keyT_p]
  show some (D.bl (!(lookT (keyL (src, tb)) (ns.map keyOf) (valsFrom f ns)).isSome)) = _
  rw [look_vals]
  by_cases h : (src, tb) ∈ ns <;> simp [h]
theorem get_met (h : (src, tb) ∈ ns) : getT' (t :: a :: b :: .dct true (ns.map keyOf) (valsFrom f ns) :: post) (.own 3) (.tup (src.map .int ++ [.int (-1 - tb)])) = some (.int (f + (ns.idxOf (src, tb) : Int))) := by
  unfold getT'
  rw [keyT_p]
  show lookT (keyL (src, tb)) (ns.map keyOf) (valsFrom f ns) = _
  rw [look_vals, if_pos h]
theorem put_met (h : (src, tb) ∉ ns) (hl : ns.length < 50000) : tputD (t :: a :: b :: .dct true (ns.map keyOf) (valsFrom f ns) :: post) (.own 3) (.tup (src.map .int ++ [.int (-1 - tb)])) (.int (f + (ns.length : Int))) =
    some (t :: a :: b :: .dct true ((ns ++ [(src, tb)]).map keyOf) (valsFrom f (ns ++ [(src, tb)])) :: post) := by
  unfold tputD
  dsimp only
  rw [keyT_p]
  show (if (ns.map keyOf).length < LIM then some (t :: a :: b :: .dct true (kputT (keyL (src, tb)) (.int (f + (ns.length : Int))) (ns.map keyOf) (valsFrom f ns)).1 (kputT (keyL (src, tb)) (.int (f + (ns.length : Int))) (ns.map keyOf) (valsFrom f ns)).2 :: post) else none) = _
  rw [if_pos (by rw [List.length_map]; exact lt_LIM (by omega))]
  have e : kputT (keyL (src, tb)) (.int (f + (ns.length : Int))) (ns.map keyOf) (valsFrom f ns) = ((ns ++ [(src, tb)]).map keyOf, valsFrom f (ns ++ [(src, tb)])) := by
    unfold kputT
    rw [has_keys, if_neg (by simpa using h), keyD_L, List.map_append, valsFrom_app]
    rfl
  rw [e]
theorem idx_len {p : List Int × Int} : ∀ {l : List (List Int × Int)}, p ∉ l → l.idxOf p = l.length
  | [], _ => rfl
  | a :: l, h => by
    rw [idxOf_ne fun e => h (by rw [e]; exact List.mem_cons_self), idx_len fun z => h (List.mem_cons_of_mem _ z)]
    rfl
theorem app_nodes (hl : ns.length < 50000) : appD (t :: a :: .lst (ns.map dNode) :: b :: post) (.own 2) (.tup [.tup (src.map .int), .int tb]) = some (t :: a :: .lst ((ns ++ [(src, tb)]).map dNode) :: b :: post) := by
  show (if (ns.map dNode).length < LIM then some (t :: a :: .lst (ns.map dNode ++ [.tup [.tup (src.map .int), .int tb]]) :: b :: post) else none) = _
  rw [if_pos (by rw [List.length_map]; exact lt_LIM (by omega)), List.map_append]
  rfl
end
theorem node_ap {t : SO} {M : Mkr} {post : Sto} (h : PostOk t post) {src : List Int} {tb : Int} (hl : src.length ≤ 3) (hn : M.nodes.length < 50000) :
    m_NodeMaker_node (SM t M post) [.own 1, .tup (src.map .int), .int tb] = some (.ok (.int (M.ix (src, tb))) (SM t (M.add (src, tb)) post)) := by
  have l1 : src.length + 1 ≤ LIM := Nat.le_of_lt (lt_LIM (by omega))
  have l2 : M.nodes.length < LIM := lt_LIM (by omega)
  by_cases hm : (src, tb) ∈ M.nodes
  · have ff := finI (kp := false) (SM_low (M := M) h) (i := M.ix (src, tb))
    rw [SM_len] at ff
    have ea : M.add (src, tb) = M := if_pos hm
    rw [ea]
    unfold Mkr.ix at ff ⊢
    simp only [SM] at ff
    simp [m_NodeMaker_node, VM.run, g_NodeMaker_node, startD, SM, l1, nin_met, hm, get_met hm, ff]
  · have ff := finI (kp := false) (SM_low (M := M.add (src, tb)) h) (i := M.ix (src, tb))
    rw [SM_len] at ff
    have ea : M.add (src, tb) = { M with nodes := M.nodes ++ [(src, tb)] } := if_neg hm
    rw [ea] at ff ⊢
    have hm2 : (src, tb) ∈ M.nodes ++ [(src, tb)] := by simp
    have ei : M.ix (src, tb) = M.fst + ((M.nodes ++ [(src, tb)]).idxOf (src, tb) : Int) := by
      unfold Mkr.ix
      rw [List.idxOf_append, if_neg hm, idx_len hm]
      simp
    rw [ei] at ff ⊢
    simp only [SM] at ff
    simp [-List.map_append, m_NodeMaker_node, VM.run, g_NodeMaker_node, startD, SM, l1, l2, nin_met, hm, put_met hm hn, app_nodes hn, get_met hm2, ff]
end LW
set_option Elab.async false
set_option maxRecDepth 100000
set_option maxHeartbeats 4000000
set_option linter.all false
set_option autoImplicit false
namespace LW
open PySem L2 VM
def Mkr.op1 (M : Mkr) (p : List Int × Int) : Int × Mkr := (M.ix p, M.add p)
def Mkr.turned (M : Mkr) (a : Int) : Int × Mkr := if a < 2 then (1 - a, M) else M.op1 ([a], 1)
def Mkr.both (M : Mkr) (a b : Int) : Int × Mkr := if a < 2 then (if a = 1 then b else 0, M) else if b < 2 then (if b = 1 then a else 0, M) else M.op1 ([a, b], 8)
def Mkr.either (M : Mkr) (a b : Int) : Int × Mkr := if a < 2 then (if a = 1 then 1 else b, M) else if b < 2 then (if b = 1 then 1 else a, M) else M.op1 ([a, b], 14)
def Mkr.pick (M : Mkr) (t a b : Int) : Int × Mkr := if t < 2 then (if t = 1 then a else b, M) else if a = b then (a, M) else M.op1 ([t, a, b], 216)
section
variable {t : SO} {M : Mkr} {post : Sto} (h : PostOk t post) (hn : M.nodes.length < 50000)
include h hn
theorem turned_ap (a : Int) : m_NodeMaker_turned (SM t M post) [.own 1, .int a] = some (.ok (.int (M.turned a).1) (SM t (M.turned a).2 post)) := by
  have ff := fun M i => finI (kp := false) (SM_low (M := M) h) (i := i)
  have nd := node_ap h (M := M) (src := [a]) (tb := 1) (by simp) hn
  simp only [SM_len] at ff
  simp only [List.map_cons, List.map_nil] at nd
  unfold Mkr.turned Mkr.op1
  by_cases e : a < 2
  · simp only [SM] at ff
    simp [m_NodeMaker_turned, VM.run, g_NodeMaker_turned, startD, e, SM, ff]
  · simp only [SM] at ff nd
    simp [m_NodeMaker_turned, VM.run, g_NodeMaker_turned, startD, e, SM, nd, ff]
theorem both_ap (a b : Int) : m_NodeMaker_both (SM t M post) [.own 1, .int a, .int b] = some (.ok (.int (M.both a b).1) (SM t (M.both a b).2 post)) := by
  have ff := fun M i => finI (kp := false) (SM_low (M := M) h) (i := i)
  have nd := node_ap h (M := M) (src := [a, b]) (tb := 8) (by simp) hn
  simp only [SM_len] at ff
  simp only [List.map_cons, List.map_nil] at nd
  simp only [SM] at ff nd
  unfold Mkr.both Mkr.op1
  by_cases e : a < 2
  · by_cases e1 : a = 1
    · subst e1
      simp [m_NodeMaker_both, VM.run, g_NodeMaker_both, startD, SM, ff]
    · simp [m_NodeMaker_both, VM.run, g_NodeMaker_both, startD, e, e1, SM, ff]
  · by_cases e2 : b < 2
    · by_cases e3 : b = 1
      · subst e3
        simp [m_NodeMaker_both, VM.run, g_NodeMaker_both, startD, e, SM, ff]
      · simp [m_NodeMaker_both, VM.run, g_NodeMaker_both, startD, e, e2, e3, SM, ff]
    · simp [m_NodeMaker_both, VM.run, g_NodeMaker_both, startD, e, e2, SM, nd, ff]
theorem either_ap (a b : Int) : m_NodeMaker_either (SM t M post) [.own 1, .int a, .int b] = some (.ok (.int (M.either a b).1) (SM t (M.either a b).2 post)) := by
  have ff := fun M i => finI (kp := false) (SM_low (M := M) h) (i := i)
  have nd := node_ap h (M := M) (src := [a, b]) (tb := 14) (by simp) hn
  simp only [SM_len] at ff
  simp only [List.map_cons, List.map_nil] at nd
  simp only [SM] at ff nd
  unfold Mkr.either Mkr.op1
  by_cases e : a < 2
  · by_cases e1 : a = 1
    · subst e1
      simp [m_NodeMaker_either, VM.run, g_NodeMaker_either, startD, SM, ff]
    · simp [m_NodeMaker_either, VM.run, g_NodeMaker_either, startD, e, e1, SM, ff]
  · by_cases e2 : b < 2
    · by_cases e3 : b = 1
      · subst e3
        simp [m_NodeMaker_either, VM.run, g_NodeMaker_either, startD, e, SM, ff]
      · simp [m_NodeMaker_either, VM.run, g_NodeMaker_either, startD, e, e2, e3, SM, ff]
    · simp [m_NodeMaker_either, VM.run, g_NodeMaker_either, startD, e, e2, SM, nd, ff]
theorem mpick_ap (c a b : Int) : m_NodeMaker_pick (SM t M post) [.own 1, .int c, .int a, .int b] = some (.ok (.int (M.pick c a b).1) (SM t (M.pick c a b).2 post)) := by
  have ff := fun M i => finI (kp := false) (SM_low (M := M) h) (i := i)
  have nd := node_ap h (M := M) (src := [c, a, b]) (tb := 216) (by simp) hn
  simp only [SM_len] at ff
  simp only [List.map_cons, List.map_nil] at nd
  simp only [SM] at ff nd
  unfold Mkr.pick Mkr.op1
  by_cases e : c < 2
  · by_cases e1 : c = 1
    · subst e1
      simp [m_NodeMaker_pick, VM.run, g_NodeMaker_pick, startD, SM, ff]
    · simp [m_NodeMaker_pick, VM.run, g_NodeMaker_pick, startD, e, e1, SM, ff]
  · by_cases e2 : a = b
    · subst e2
      simp [m_NodeMaker_pick, VM.run, g_NodeMaker_pick, startD, e, SM, ff]
    · simp [m_NodeMaker_pick, VM.run, g_NodeMaker_pick, startD, e, e2, SM, nd, ff]
end
end LW
set_option Elab.async false
set_option maxRecDepth 100000
set_option maxHeartbeats 4000000
set_option linter.all false
set_option autoImplicit false
namespace LW
open PySem L2 VM
/-! ### what nodes tell -/
def rowOf (vs : List Int) : List Int → Int
  | [] => 0
  | a :: l => vs.getD a.toNat 0 + 2 * rowOf vs l
def told (p : List Int × Int) (vs : List Int) : Int := p.2 / 2 ^ (rowOf vs p.1).toNat % 2
def vals (bs : List Int) : List (List Int × Int) → List Int
  | [] => bs
  | p :: ps => vals (bs ++ [told p bs]) ps
theorem vals_app (ps : List (List Int × Int)) (p : List Int × Int) : ∀ bs : List Int, vals bs (ps ++ [p]) = vals bs ps ++ [told p (vals bs ps)] := by
  induction ps with
  | nil => intro bs; rfl
  | cons a ps ih => intro bs; exact ih _
theorem vals_pre (ps : List (List Int × Int)) : ∀ bs : List Int, bs <+: vals bs ps := by
  induction ps with
  | nil => intro bs; exact List.prefix_refl _
  | cons a ps ih => intro bs; exact (List.prefix_append _ _).trans (ih _)
theorem vals_app2 (ps qs : List (List Int × Int)) : ∀ bs : List Int, vals bs (ps ++ qs) = vals (vals bs ps) qs := by
  induction ps with
  | nil => intro bs; rfl
  | cons a ps ih => intro bs; exact ih _
theorem vals_len (ps : List (List Int × Int)) : ∀ bs : List Int, (vals bs ps).length = bs.length + ps.length := by
  induction ps with
  | nil => intro bs; rfl
  | cons a ps ih => intro bs; rw [vals, ih]; simp; omega
theorem getD_app_l {vs ws : List Int} {i : Nat} (hi : i < vs.length) : (vs ++ ws).getD i 0 = vs.getD i 0 := by
  rw [List.getD_eq_getElem?_getD, List.getD_eq_getElem?_getD, List.getElem?_append_left hi]
theorem getD_app_r {vs ws : List Int} {i : Nat} (hi : vs.length ≤ i) : (vs ++ ws).getD i 0 = ws.getD (i - vs.length) 0 := by
  rw [List.getD_eq_getElem?_getD, List.getD_eq_getElem?_getD, List.getElem?_append_right hi]
theorem getD_pre {vs ws : List Int} {i : Nat} (h : vs <+: ws) (hi : i < vs.length) : ws.getD i 0 = vs.getD i 0 := by
  obtain ⟨t, rfl⟩ := h
  rw [getD_app_l hi]
theorem rowOf_pre {vs ws : List Int} (h : vs <+: ws) : ∀ {l : List Int}, (∀ a ∈ l, a.toNat < vs.length) → rowOf ws l = rowOf vs l
  | [], _ => rfl
  | a :: l, g => by
    rw [rowOf, rowOf, getD_pre h (g a List.mem_cons_self), rowOf_pre h fun b hb => g b (List.mem_cons_of_mem _ hb)]
structure Mkr.Ok (M : Mkr) : Prop where
  f2 : 2 ≤ M.fst
  nd : ∀ k (hk : k < M.nodes.length), NodeOk (M.fst + (k : Int)) M.nodes[k]
structure Ext (M M' : Mkr) : Prop where
  fst : M'.fst = M.fst
  pre : M.nodes <+: M'.nodes
theorem Ext.refl (M : Mkr) : Ext M M := ⟨rfl, List.prefix_refl _⟩
theorem Ext.trans {A B C : Mkr} (a : Ext A B) (b : Ext B C) : Ext A C := ⟨b.fst.trans a.fst, a.pre.trans b.pre⟩
def Good (M : Mkr) (i : Int) : Prop := 0 ≤ i ∧ i < M.fst + (M.nodes.length : Int)
theorem Ext.len {M M' : Mkr} (e : Ext M M') : M.nodes.length ≤ M'.nodes.length := e.pre.length_le
theorem Good.ext {M M' : Mkr} {i : Int} (g : Good M i) (e : Ext M M') : Good M' i := by
  have h1 := e.len
  have h2 := e.fst
  unfold Good at g ⊢
  omega
/-- the sources' bits: 0, 1, then the inputs' -/
structure BitsOk (M : Mkr) (bs : List Int) : Prop where
  len : (bs.length : Int) = M.fst
  b0 : bs.getD 0 0 = 0
  b1 : bs.getD 1 0 = 1
  bit : ∀ i, bs.getD i 0 = 0 ∨ bs.getD i 0 = 1
theorem BitsOk.ext {M M' : Mkr} {bs : List Int} (b : BitsOk M bs) (e : Ext M M') : BitsOk M' bs := ⟨b.len.trans e.fst.symm, b.b0, b.b1, b.bit⟩
def val (M : Mkr) (bs : List Int) (i : Int) : Int := (vals bs M.nodes).getD i.toNat 0
theorem told_bit (p : List Int × Int) (vs : List Int) : told p vs = 0 ∨ told p vs = 1 := by
  unfold told
  omega
theorem vals_bit (ps : List (List Int × Int)) : ∀ bs : List Int, (∀ i, bs.getD i 0 = 0 ∨ bs.getD i 0 = 1) → ∀ i, (vals bs ps).getD i 0 = 0 ∨ (vals bs ps).getD i 0 = 1 := by
  induction ps with
  | nil => intro bs h; exact h
  | cons a ps ih =>
    intro bs h
    refine ih _ fun i => ?_
    by_cases hi : i < bs.length
    · rw [getD_app_l hi]
      exact h i
    · rw [getD_app_r (by omega)]
      by_cases h0 : i - bs.length = 0
      · rw [h0]
        exact told_bit a bs
      · left
        rw [List.getD_eq_getElem?_getD, List.getElem?_eq_none (by simp; omega)]
        rfl
theorem val_bit {M : Mkr} {bs : List Int} (b : BitsOk M bs) (i : Int) : val M bs i = 0 ∨ val M bs i = 1 := vals_bit _ _ b.bit _
theorem val_ext {M M' : Mkr} {bs : List Int} {i : Int} (b : BitsOk M bs) (e : Ext M M') (g : Good M i) : val M' bs i = val M bs i := by
  unfold val
  obtain ⟨qs, hq⟩ := e.pre
  rw [← hq, vals_app2]
  refine getD_pre (vals_pre _ _) ?_
  rw [vals_len]
  have := b.len
  unfold Good at g
  omega
theorem val_0 {M : Mkr} {bs : List Int} (b : BitsOk M bs) (o : M.Ok) : val M bs 0 = 0 := by
  unfold val
  have := b.len
  have := o.f2
  rw [getD_pre (vals_pre _ _) (by simp; omega)]
  exact b.b0
theorem val_1 {M : Mkr} {bs : List Int} (b : BitsOk M bs) (o : M.Ok) : val M bs 1 = 1 := by
  unfold val
  have := b.len
  have := o.f2
  rw [getD_pre (vals_pre _ _) (by simp; omega)]
  exact b.b1
end LW
set_option Elab.async false
set_option maxRecDepth 100000
set_option maxHeartbeats 4000000
set_option linter.all false
set_option autoImplicit false
namespace LW
open PySem L2 VM
structure Res1 (M : Mkr) (r : Int × Mkr) (F : List Int → Int) : Prop where
  ext : Ext M r.2
  ok : r.2.Ok
  good : Good r.2 r.1
  len : r.2.nodes.length ≤ M.nodes.length + 1
  val : ∀ bs, BitsOk M bs → val r.2 bs r.1 = F bs
theorem ext_add (M : Mkr) (p : List Int × Int) : Ext M (M.add p) := by
  unfold Mkr.add
  split
  · exact .refl M
  · exact ⟨rfl, List.prefix_append _ _⟩
theorem idx_split {p : List Int × Int} : ∀ {l : List (List Int × Int)}, p ∈ l → ∃ as bs, l = as ++ p :: bs ∧ l.idxOf p = as.length
  | a :: l, h => by
    by_cases e : a = p
    · subst e
      exact ⟨[], l, rfl, by simp⟩
    · obtain ⟨as, bs, h1, h2⟩ := idx_split (l := l) ((List.mem_cons.mp h).resolve_left fun z => e z.symm)
      exact ⟨a :: as, bs, by rw [h1]; rfl, by rw [idxOf_ne e, h2]; rfl⟩
theorem op1_good {M : Mkr} (o : M.Ok) {p : List Int × Int} (l1 : 1 ≤ p.1.length) (l3 : p.1.length ≤ 3) (hs : ∀ a ∈ p.1, Good M a) (t0 : 0 ≤ p.2) (t1 : p.2 < 2 ^ 2 ^ p.1.length) : Res1 M (M.op1 p) fun bs => told p (vals bs M.nodes) := by
  have hf := o.f2
  by_cases h : p ∈ M.nodes
  · have ea : M.add p = M := if_pos h
    obtain ⟨as, qs, h1, h2⟩ := idx_split h
    unfold Mkr.op1
    rw [ea]
    have hlen : M.nodes.length = as.length + 1 + qs.length := by rw [h1]; simp; omega
    refine ⟨.refl M, o, ?_, Nat.le_succ _, fun bs b => ?_⟩
    · unfold Good Mkr.ix
      rw [h2]
      dsimp only
      omega
    · have hb := b.len
      have hn := o.nd as.length (by omega)
      have e : M.nodes[as.length]'(by omega) = p := by simp [h1]
      rw [e] at hn
      have e2 : vals bs M.nodes = vals (vals bs as ++ [told p (vals bs as)]) qs := by rw [h1, vals_app2]; rfl
      have hl : (vals bs as).length = bs.length + as.length := vals_len _ _
      have e3 : told p (vals bs M.nodes) = told p (vals bs as) := by
        unfold told
        rw [rowOf_pre (vs := vals bs as) (ws := vals bs M.nodes)]
        · rw [e2]
          exact (List.prefix_append _ _).trans (vals_pre _ _)
        · intro a ha
          have := hn.src a ha
          omega
      rw [e3]
      show (vals bs M.nodes).getD (M.ix p).toNat 0 = _
      have e4 : (M.ix p).toNat = (vals bs as).length := by
        unfold Mkr.ix
        rw [h2]
        omega
      rw [e4, e2, getD_pre (vals_pre _ _) (by simp), getD_app_r (Nat.le_refl _), Nat.sub_self]
      rfl
  · have ea : M.add p = { M with nodes := M.nodes ++ [p] } := if_neg h
    unfold Mkr.op1
    have e1 := ext_add M p
    rw [ea] at e1 ⊢
    have ei : M.ix p = M.fst + (M.nodes.length : Int) := by
      unfold Mkr.ix
      rw [idx_len h]
    refine ⟨e1, ⟨o.f2, fun k hk => ?_⟩, ?_, by simp, fun bs b => ?_⟩
    · by_cases hk2 : k < M.nodes.length
      · have := o.nd k hk2
        simpa [List.getElem_append_left hk2] using this
      · have : k = M.nodes.length := by simp at hk; omega
        subst this
        have e : (M.nodes ++ [p])[M.nodes.length]'hk = p := by simp
        show NodeOk _ ((M.nodes ++ [p])[M.nodes.length]'hk)
        rw [e]
        exact ⟨l1, l3, hs, t0, t1⟩
    · unfold Good
      rw [ei]
      simp
      omega
    · have hb := b.len
      show (vals bs (M.nodes ++ [p])).getD (M.ix p).toNat 0 = _
      have e4 : (M.ix p).toNat = (vals bs M.nodes).length := by rw [ei, vals_len]; omega
      rw [e4, vals_app, getD_app_r (Nat.le_refl _), Nat.sub_self]
      rfl
theorem res_same {M : Mkr} (o : M.Ok) {i : Int} {F : List Int → Int} (g : Good M i) (h : ∀ bs, BitsOk M bs → val M bs i = F bs) : Res1 M (i, M) F := ⟨.refl M, o, g, Nat.le_succ _, h⟩
theorem Res1.imp {M : Mkr} {r : Int × Mkr} {F G : List Int → Int} (h : Res1 M r F) (e : ∀ bs, BitsOk M bs → F bs = G bs) : Res1 M r G := ⟨h.ext, h.ok, h.good, h.len, fun bs b => (h.val bs b).trans (e bs b)⟩
theorem good_0 {M : Mkr} (o : M.Ok) : Good M 0 := ⟨by decide, by have := o.f2; omega⟩
theorem good_1 {M : Mkr} (o : M.Ok) : Good M 1 := ⟨by decide, by have := o.f2; omega⟩
theorem g01 {M : Mkr} {a : Int} (g : Good M a) (h : a < 2) : a = 0 ∨ a = 1 := by
  unfold Good at g
  omega
end LW
set_option Elab.async false
set_option maxRecDepth 100000
set_option maxHeartbeats 4000000
set_option linter.all false
set_option autoImplicit false
namespace LW
open PySem L2 VM
section
variable {M : Mkr} (o : M.Ok)
include o
theorem turned_good {a : Int} (g : Good M a) : Res1 M (M.turned a) fun bs => 1 - val M bs a := by
  unfold Mkr.turned
  split
  · rename_i h
    rcases g01 g h with rfl | rfl
    · exact res_same o (good_1 o) fun bs b => by rw [val_0 b o]; exact val_1 b o
    · exact res_same o (good_0 o) fun bs b => by rw [val_1 b o]; exact val_0 b o
  · refine (op1_good o (p := ([a], 1)) (by simp) (by simp) (by simpa using g) (by simp) (by simp)).imp fun bs b => ?_
    show 1 / 2 ^ (val M bs a + 2 * 0).toNat % 2 = _
    rcases val_bit b a with e | e <;> rw [e] <;> decide
theorem both_good {a c : Int} (g : Good M a) (g2 : Good M c) : Res1 M (M.both a c) fun bs => val M bs a * val M bs c := by
  unfold Mkr.both
  split
  · rename_i h
    rcases g01 g h with rfl | rfl
    · exact res_same o (good_0 o) fun bs b => by show val M bs 0 = _; rw [val_0 b o]; simp
    · exact res_same o g2 fun bs b => by rw [val_1 b o]; simp
  · split
    · rename_i h
      rcases g01 g2 h with rfl | rfl
      · exact res_same o (good_0 o) fun bs b => by show val M bs 0 = _; rw [val_0 b o]; simp
      · exact res_same o g fun bs b => by rw [val_1 b o]; simp
    · refine (op1_good o (p := ([a, c], 8)) (by simp) (by simp) (by simpa using ⟨g, g2⟩) (by simp) (by simp)).imp fun bs b => ?_
      show 8 / 2 ^ (val M bs a + 2 * (val M bs c + 2 * 0)).toNat % 2 = _
      rcases val_bit b a with e | e <;> rcases val_bit b c with e2 | e2 <;> rw [e, e2] <;> decide
theorem either_good {a c : Int} (g : Good M a) (g2 : Good M c) : Res1 M (M.either a c) fun bs => val M bs a + val M bs c - val M bs a * val M bs c := by
  unfold Mkr.either
  split
  · rename_i h
    rcases g01 g h with rfl | rfl
    · exact res_same o g2 fun bs b => by rw [val_0 b o]; simp
    · exact res_same o (good_1 o) fun bs b => by show val M bs 1 = _; rw [val_1 b o]; omega
  · split
    · rename_i h
      rcases g01 g2 h with rfl | rfl
      · exact res_same o g fun bs b => by rw [val_0 b o]; simp
      · exact res_same o (good_1 o) fun bs b => by show val M bs 1 = _; rw [val_1 b o]; omega
    · refine (op1_good o (p := ([a, c], 14)) (by simp) (by simp) (by simpa using ⟨g, g2⟩) (by simp) (by simp)).imp fun bs b => ?_
      show 14 / 2 ^ (val M bs a + 2 * (val M bs c + 2 * 0)).toNat % 2 = _
      rcases val_bit b a with e | e <;> rcases val_bit b c with e2 | e2 <;> rw [e, e2] <;> decide
theorem pick_good {c a d : Int} (gc : Good M c) (g : Good M a) (g2 : Good M d) : Res1 M (M.pick c a d) fun bs => if val M bs c = 1 then val M bs a else val M bs d := by
  unfold Mkr.pick
  split
  · rename_i h
    rcases g01 gc h with rfl | rfl
    · exact res_same o g2 fun bs b => by rw [val_0 b o]; simp
    · exact res_same o g fun bs b => by rw [val_1 b o]; simp
  · split
    · rename_i h
      subst h
      exact res_same o g fun bs b => by simp
    · refine (op1_good o (p := ([c, a, d], 216)) (by simp) (by simp) (by simpa using ⟨gc, g, g2⟩) (by simp) (by simp)).imp fun bs b => ?_
      show 216 / 2 ^ (val M bs c + 2 * (val M bs a + 2 * (val M bs d + 2 * 0))).toNat % 2 = _
      rcases val_bit b c with e0 | e0 <;> rcases val_bit b a with e | e <;> rcases val_bit b d with e2 | e2 <;> rw [e, e2, e0] <;> decide
end
end LW
set_option Elab.async false
set_option maxRecDepth 100000
set_option maxHeartbeats 4000000
set_option linter.all false
set_option autoImplicit false
namespace LW
open PySem L2 VM
/-! ### queues -/
def placeD (more : List Int) (rows : List (List Int)) : D := .ins 38 [53, 54] [.tup (more.map .int), .tup (rows.map dSrc)]
theorem low_placeD (n : Nat) (more : List Int) (rows : List (List Int)) : low n (placeD more rows) = true := by
  simp only [placeD, low, lows, lows_mapT (G := D.int) (fun _ => rfl) more, lows_mapT (low_dSrc n) rows, Bool.and_self]
section
variable {s : Sto} (hs : Low s) {more : List Int} {rows : List (List Int)}
include hs
theorem room_ap : m_QueuePlace_room s [placeD more rows] = some (.ok (.int (more.length : Int)) s) := by
  simp [m_QueuePlace_room, VM.run, g_QueuePlace_room, startD, placeD, finI hs]
theorem width_ap {r : List Int} {rs : List (List Int)} (e : rows = r :: rs) : m_QueuePlace_width s [placeD more rows] = some (.ok (.int (r.length : Int)) s) := by
  subst e
  simp [m_QueuePlace_width, VM.run, g_QueuePlace_width, startD, placeD, finI hs, dSrc]
theorem atI_ofInts {l : List Int} {i : Int} (h0 : 0 ≤ i) (h1 : i < l.length) : atI (l.map D.int) i = some (.int (l.getD i.toNat 0)) := by
  rw [atI_pos _ h0, List.getElem?_map, List.getD_eq_getElem?_getD, List.getElem?_eq_getElem (by omega)]
  rfl
theorem atI_ofRows {l : List (List Int)} {i : Int} (h0 : 0 ≤ i) (h1 : i < l.length) : atI (l.map dSrc) i = some (dSrc (l.getD i.toNat [])) := by
  rw [atI_pos _ h0, List.getElem?_map, List.getD_eq_getElem?_getD, List.getElem?_eq_getElem (by omega)]
  rfl
theorem hw_ap {c : Int} (h1 : 1 ≤ c) (h2 : c ≤ more.length) : m_has_words s [placeD more rows, .int c] = some (.ok (.int (more.getD (c - 1).toNat 0)) s) := by
  simp [m_has_words, VM.run, g_has_words, startD, placeD, finI hs, atI_ofInts hs (show 0 ≤ c - 1 by omega) (show c - 1 < more.length by omega)]
end
section
variable {t : SO} {M : Mkr} {post : Sto} (h : PostOk t post) (hn : M.nodes.length < 40000) {more : List Int} {rows : List (List Int)}
include h hn
theorem hp_ap {c : Int} (h1 : 1 ≤ c) (h2 : c ≤ more.length) : m_has_place_for (SM t M post) [.own 1, placeD more rows, .int c] = some (.ok (.int (M.turned (more.getD ((more.length : Int) - c).toNat 0)).1) (SM t (M.turned (more.getD ((more.length : Int) - c).toNat 0)).2 post)) := by
  have hl := SM_low (M := M) h
  have ff := fun M i => finI (kp := false) (SM_low (M := M) h) (i := i)
  simp only [SM_len] at ff
  have tu := turned_ap h (show M.nodes.length < 50000 by omega)
  have at1 := atI_ofInts hl (l := more) (show 0 ≤ (more.length : Int) - c by omega) (by omega)
  have ro := room_ap hl (more := more) (rows := rows)
  unfold placeD at ro ⊢
  have hm : insO (SM t M post)[1]? = some (33, [39, 44, 45], [.int M.fst, .own 2, .own 3]) := rfl
  simp [-List.getD_eq_getElem?_getD, m_has_place_for, VM.run, g_has_place_for, startD, at1, ro, tu, hm, SM_len, ff]
theorem len_ap {c : Nat} (h2 : c < more.length) : ∃ r M', m_is_length (SM t M post) [.own 1, placeD more rows, .int (c : Int)] = some (.ok (.int r) (SM t M' post)) ∧
    (M.Ok → (∀ a ∈ more, Good M a) → Ext M M' ∧ M'.Ok ∧ Good M' r ∧ M'.nodes.length ≤ M.nodes.length + 2 ∧ ∀ bs, BitsOk M bs → val M' bs r = (if c = 0 then 1 else val M bs (more.getD (c - 1) 0)) * (1 - val M bs (more.getD c 0))) := by
  have hl := SM_low (M := M) h
  have ff := fun M i => finI (kp := false) (SM_low (M := M) h) (i := i)
  simp only [SM_len] at ff
  have tu := turned_ap h (show M.nodes.length < 50000 by omega)
  have at1 := atI_ofInts hl (l := more) (i := (c : Int)) (by omega) (by omega)
  have hm : ∀ M, insO (SM t M post)[1]? = some (33, [39, 44, 45], [.int M.fst, .own 2, .own 3]) := fun _ => rfl
  simp only [Int.toNat_natCast] at at1
  by_cases e : c = 0
  · subst e
    refine ⟨(M.turned (more.getD 0 0)).1, (M.turned (more.getD 0 0)).2, ?_, fun o g => ?_⟩
    · unfold placeD
      have hg : more[0]? = some (more.getD 0 0) := by rw [List.getD_eq_getElem?_getD, List.getElem?_eq_getElem h2]; rfl
      simp [-List.getD_eq_getElem?_getD, m_is_length, VM.run, g_is_length, startD, hg, tu, hm, SM_len, ff]
    · have gg : Good M (more.getD 0 0) := g _ (by rw [List.getD_eq_getElem?_getD, List.getElem?_eq_getElem h2]; exact List.getElem_mem h2)
      have r := turned_good o gg
      exact ⟨r.ext, r.ok, r.good, by have := r.len; omega, fun bs b => by rw [r.val bs b]; simp⟩
  · have gd : ∀ {k : Nat}, k < more.length → more.getD k 0 ∈ more := fun {k} hk => by
      rw [List.getD_eq_getElem?_getD, List.getElem?_eq_getElem hk]
      exact List.getElem_mem hk
    have at2 := atI_ofInts hl (l := more) (i := (c : Int) - 1) (by omega) (by omega)
    rw [show ((c : Int) - 1).toNat = c - 1 by omega] at at2
    have hn2 : (M.turned (more.getD c 0)).2.nodes.length < 50000 := by
      unfold Mkr.turned Mkr.op1 Mkr.add
      split
      · show M.nodes.length < 50000; omega
      · dsimp only
        split
        · omega
        · simp; omega
    have bo := both_ap h hn2
    have e2 : ¬ ((c : Int) = 0) := by omega
    refine ⟨((M.turned (more.getD c 0)).2.both (more.getD (c - 1) 0) (M.turned (more.getD c 0)).1).1, ((M.turned (more.getD c 0)).2.both (more.getD (c - 1) 0) (M.turned (more.getD c 0)).1).2, ?_, fun o g => ?_⟩
    · unfold placeD
      have hg : more[c]? = some (more.getD c 0) := by rw [List.getD_eq_getElem?_getD, List.getElem?_eq_getElem h2]; rfl
      simp [-List.getD_eq_getElem?_getD, m_is_length, VM.run, g_is_length, startD, hg, at1, at2, tu, hm, SM_len, ff, e, e2, bo]
    · have r := turned_good o (g _ (gd h2))
      have g1 : Good M (more.getD (c - 1) 0) := g _ (gd (by omega))
      have r2 := both_good r.ok (g1.ext r.ext) r.good
      refine ⟨r.ext.trans r2.ext, r2.ok, r2.good, by have := r.len; have := r2.len; omega, fun bs b => ?_⟩
      rw [r2.val bs (b.ext r.ext), r.val bs b, val_ext b r.ext g1, if_neg e]
end
end LW
set_option Elab.async false
set_option maxRecDepth 100000
set_option maxHeartbeats 4000000
set_option linter.all false
set_option autoImplicit false
namespace LW
open PySem L2 VM
theorem place_make {s : Sto} (hs : Low s) {x y : D} {more : List Int} {rows : List (List Int)} (hx : tupleD (s ++ [.ins 38 [] []]) x = some (.tup (more.map .int))) (hy : tupleD (s ++ [.ins 38 [53] [.tup (more.map .int)]]) y = some (.tup (rows.map dSrc))) :
    makeD false 38 m_QueuePlace_init s [x, y] = some (.ok (placeD more rows) s) := by
  have lw : ∀ n, lows n [D.tup (more.map .int), .tup (rows.map dSrc)] = true := fun n => by
    simp only [lows, low, lows_mapT (G := D.int) (fun _ => rfl) more, lows_mapT (low_dSrc n) rows, Bool.and_self]
  have ff := finN (kp := false) (hs.snoc (so := .ins 38 [53, 54] [.tup (more.map .int), .tup (rows.map dSrc)]) (lw _))
  rw [List.length_append, List.length_singleton] at ff
  unfold makeD
  simp [m_QueuePlace_init, VM.run, g_QueuePlace_init, startD, hx, hy, setF_own, putN_cons, putN_nil, ff]
  exact fin_frz hs (lw _)
/-- the tape and the like: nothing owned within -/
def TOk (t : SO) : Prop := ∀ n, lowS n t = true
theorem postI {t : SO} (h : TOk t) {ms : List Int} {rs : List (List Int)} : PostOk t [.lst (ms.map D.int), .lst (rs.map dSrc)] := by
  refine ⟨h _, ?_⟩
  simp only [List.all_cons, List.all_nil, lowS, lows_mapT (G := D.int) (fun _ => rfl) ms, lows_mapT (low_dSrc _) rs, Bool.and_self]
structure RowsOk (M : Mkr) (n w : Nat) (more : List Int) (rows : List (List Int)) : Prop where
  l1 : more.length = n
  l2 : rows.length = n
  lw : ∀ r ∈ rows, r.length = w
  gm : ∀ a ∈ more, Good M a
  gr : ∀ r ∈ rows, ∀ a ∈ r, Good M a
theorem mem_getD {l : List Int} {k : Nat} (h : k < l.length) : l.getD k 0 ∈ l := by
  rw [List.getD_eq_getElem?_getD, List.getElem?_eq_getElem h]
  exact List.getElem_mem h
theorem some_getD {l : List Int} {k : Nat} (h : k < l.length) : l[k]? = some (l.getD k 0) := by
  rw [List.getD_eq_getElem?_getD, List.getElem?_eq_getElem h]
  rfl
theorem some_getR {l : List (List Int)} {k : Nat} (h : k < l.length) : l[k]? = some (l.getD k []) := by
  rw [List.getD_eq_getElem?_getD, List.getElem?_eq_getElem h]
  rfl
theorem mem_getR {l : List (List Int)} {k : Nat} (h : k < l.length) : l.getD k [] ∈ l := by
  rw [List.getD_eq_getElem?_getD, List.getElem?_eq_getElem h]
  exact List.getElem_mem h
/-- what a row of made sources is -/
structure Made (M M' : Mkr) (zs : List Int) (n k : Nat) (F : List Int → Nat → Int) : Prop where
  ext : Ext M M'
  ok : M'.Ok
  len : zs.length = n
  good : ∀ a ∈ zs, Good M' a
  cnt : M'.nodes.length ≤ M.nodes.length + k
  vl : ∀ bs, BitsOk M bs → ∀ j, j < n → val M' bs (zs.getD j 0) = F bs j
theorem Made.nil {M : Mkr} (o : M.Ok) {F : List Int → Nat → Int} : Made M M [] 0 0 F := ⟨.refl M, o, rfl, fun a h => (nomatch h), Nat.le_refl _, fun bs b j h => by omega⟩
theorem getD_snoc_lt {l : List Int} {a : Int} {j : Nat} (h : j < l.length) : (l ++ [a]).getD j 0 = l.getD j 0 := getD_app_l h
theorem getD_snoc_eq {l : List Int} {a : Int} {j : Nat} (h : j = l.length) : (l ++ [a]).getD j 0 = a := by
  subst h
  rw [getD_app_r (Nat.le_refl _), Nat.sub_self]
  rfl
theorem Made.snoc {M M1 M2 : Mkr} {zs : List Int} {n k c : Nat} {F : List Int → Nat → Int} {z : Int} (m : Made M M1 zs n k F) (e : Ext M1 M2) (o : M2.Ok) (g : Good M2 z) (hc : M2.nodes.length ≤ M1.nodes.length + c) (hv : ∀ bs, BitsOk M bs → val M2 bs z = F bs n) : Made M M2 (zs ++ [z]) (n + 1) (k + c) F := by
  refine ⟨m.ext.trans e, o, by simp [m.len], fun a ha => ?_, by have := m.cnt; omega, fun bs b j hj => ?_⟩
  · rcases List.mem_append.mp ha with ha | ha
    · exact (m.good a ha).ext e
    · rw [List.mem_singleton.mp ha]; exact g
  · by_cases h : j < n
    · rw [getD_snoc_lt (by rw [m.len]; exact h), val_ext (b.ext m.ext) e (m.good _ (mem_getD (by rw [m.len]; exact h)))]
      exact m.vl bs b j h
    · rw [getD_snoc_eq (by rw [m.len]; omega), hv bs b]
      rw [show j = n by omega]
end LW
set_option Elab.async false
set_option maxRecDepth 100000
set_option maxHeartbeats 4000000
set_option linter.all false
set_option autoImplicit false
namespace LW
open PySem L2 VM
noncomputable abbrev feT : VM.M D := fMeth 33 3 m_NodeMaker_pick (fVar 0) (fCons (fVar 3) (fCons (fOp ixD (fVar 9) (fVar 10)) (fCons (fOp ixD (fOp ixD (fFld 54 (fVar 1)) (fVar 7)) (fVar 10)) (fNil))))
theorem picks {t : SO} {post : Sto} (h : PostOk t post) {M : Mkr} (o : M.Ok) {c : Int} (gc : Good M c) {r1 : List Int} {w n k : Nat} {more : List Int} {rows : List (List Int)} {x2 x4 x5 x6 x8 : Option D} (R : RowsOk M n w more rows) (hk : k < n) (e1 : r1.length = w) (g1 : ∀ a ∈ r1, Good M a) (hn : M.nodes.length + w < 40000) :
    ∃ zs M', lcL (gNm 10) (VM.ret true) feT none [some (.own 1), some (placeD more rows), x2, some (.int c), x4, x5, x6, some (.int (k : Int)), x8, some (.tup (r1.map .int)), none] (rngD 0 w) (SM t M post) = some (zs.map D.int, SM t M' post) ∧
      Made M M' zs w w fun bs j => if val M bs c = 1 then val M bs (r1.getD j 0) else val M bs ((rows.getD k []).getD j 0) := by
  have hk2 : k < rows.length := by rw [R.l2]; exact hk
  have e2 := R.lw _ (mem_getR hk2)
  have g2 := R.gr _ (mem_getR hk2)
  obtain ⟨ys, s', e, zs, M', rfl, rfl, m⟩ := lcL_rngP (gt := gNm 10) (ft := VM.ret true) (fe := feT) (ρ := [some (.own 1), some (placeD more rows), x2, some (.int c), x4, x5, x6, some (.int (k : Int)), x8, some (.tup (r1.map .int)), none]) (lo := 0) (n := w) (s := SM t M post)
    (P := fun i acc s => ∃ zs M', acc = zs.map D.int ∧ s = SM t M' post ∧ Made M M' zs i i fun bs j => if val M bs c = 1 then val M bs (r1.getD j 0) else val M bs ((rows.getD k []).getD j 0)) ⟨[], M, rfl, rfl, Made.nil o⟩ fun i hi acc s hp => by
    obtain ⟨zs, M1, rfl, rfl, m⟩ := hp
    refine ⟨_, rfl, rfl, ?_⟩
    have hm : insO (SM t M1 post)[1]? = some (33, [39, 44, 45], [.int M1.fst, .own 2, .own 3]) := rfl
    have pk := mpick_ap h (M := M1) (by have := m.cnt; omega) c (r1.getD i 0) ((rows.getD k []).getD i 0)
    have a1 : r1[i]? = some (r1.getD i 0) := some_getD (by omega)
    have a2 : (rows.getD k [])[i]? = some ((rows.getD k []).getD i 0) := some_getD (by omega)
    have a3 := some_getR hk2
    unfold placeD
    simp [-List.getD_eq_getElem?_getD, hm, atI_nat', a1, a3, dSrc, a2, pk]
    have G1 := g1 _ (mem_getD (l := r1) (k := i) (by omega))
    have G2 := g2 _ (mem_getD (l := rows.getD k []) (k := i) (by omega))
    have r := pick_good m.ok (gc.ext m.ext) (G1.ext m.ext) (G2.ext m.ext)
    refine ⟨zs ++ [(M1.pick c (r1.getD i 0) ((rows.getD k []).getD i 0)).1], by rw [List.map_append]; rfl, (M1.pick c (r1.getD i 0) ((rows.getD k []).getD i 0)).2, rfl, m.snoc r.ext r.ok r.good r.len fun bs b => ?_⟩
    rw [r.val bs (b.ext m.ext), val_ext b m.ext gc, val_ext b m.ext G1, val_ext b m.ext G2]
  exact ⟨zs, M', e, m⟩
end LW
set_option Elab.async false
set_option maxRecDepth 100000
set_option maxHeartbeats 4000000
set_option linter.all false
set_option autoImplicit false
namespace LW
open PySem L2 VM
theorem Made.mono {M M1 M2 : Mkr} {zs : List Int} {n k k' : Nat} {F : List Int → Nat → Int} (m : Made M M1 zs n k F) (e : Ext M1 M2) (o : M2.Ok) (hc : M2.nodes.length ≤ M.nodes.length + k') : Made M M2 zs n k' F :=
  ⟨m.ext.trans e, o, m.len, fun a ha => (m.good a ha).ext e, hc, fun bs b j hj => by
    rw [val_ext (b.ext m.ext) e (m.good _ (mem_getD (by rw [m.len]; exact hj)))]
    exact m.vl bs b j hj⟩
structure MadeR (M M' : Mkr) (rs : List (List Int)) (n w : Nat) (F : List Int → Nat → Nat → Int) : Prop where
  len : rs.length = n
  lw : ∀ r ∈ rs, r.length = w
  good : ∀ r ∈ rs, ∀ a ∈ r, Good M' a
  vl : ∀ bs, BitsOk M bs → ∀ i, i < n → ∀ j, j < w → val M' bs ((rs.getD i []).getD j 0) = F bs i j
theorem MadeR.nil {M : Mkr} {w : Nat} {F : List Int → Nat → Nat → Int} : MadeR M M [] 0 w F := ⟨rfl, fun r h => (nomatch h), fun r h => (nomatch h), fun bs b i h => by omega⟩
theorem MadeR.mono {M M1 M2 : Mkr} {rs : List (List Int)} {n w : Nat} {F : List Int → Nat → Nat → Int} (m : MadeR M M1 rs n w F) (e0 : Ext M M1) (e : Ext M1 M2) : MadeR M M2 rs n w F :=
  ⟨m.len, m.lw, fun r hr a ha => (m.good r hr a ha).ext e, fun bs b i hi j hj => by
    have hr := mem_getR (l := rs) (k := i) (by rw [m.len]; exact hi)
    rw [val_ext (b.ext e0) e (m.good _ hr _ (mem_getD (by rw [m.lw _ hr]; exact hj)))]
    exact m.vl bs b i hi j hj⟩
theorem MadeR.snoc {M M1 M2 : Mkr} {rs : List (List Int)} {zs : List Int} {n w k : Nat} {F : List Int → Nat → Nat → Int} {G : List Int → Nat → Int} (m : MadeR M M1 rs n w F) (e0 : Ext M M1) (q : Made M1 M2 zs w k G) (hv : ∀ bs, BitsOk M bs → ∀ j, j < w → G bs j = F bs n j) : MadeR M M2 (rs ++ [zs]) (n + 1) w F := by
  have m2 := m.mono e0 q.ext
  refine ⟨by simp [m.len], fun r hr => ?_, fun r hr a ha => ?_, fun bs b i hi j hj => ?_⟩
  · rcases List.mem_append.mp hr with hr | hr
    · exact m.lw r hr
    · rw [List.mem_singleton.mp hr]; exact q.len
  · rcases List.mem_append.mp hr with hr | hr
    · exact m2.good r hr a ha
    · rw [List.mem_singleton.mp hr] at ha; exact q.good a ha
  · by_cases h : i < n
    · have : (rs ++ [zs]).getD i [] = rs.getD i [] := by
        rw [List.getD_eq_getElem?_getD, List.getD_eq_getElem?_getD, List.getElem?_append_left (by rw [m.len]; exact h)]
      rw [this]
      exact m2.vl bs b i h j hj
    · have hi2 : i = rs.length := by rw [m.len]; omega
      have : (rs ++ [zs]).getD i [] = zs := by
        rw [List.getD_eq_getElem?_getD, hi2, List.getElem?_append_right (Nat.le_refl _), Nat.sub_self]
        rfl
      rw [this, q.vl bs (b.ext e0) j hj, hv bs b j hj, show i = n by omega]
section
variable {t : SO} {M : Mkr} {as bs : List D} {v : D} {x : SO}
theorem app4 (h : as.length < LIM) : appD (SM t M [.lst as, x]) (.own 4) v = some (SM t M [.lst (as ++ [v]), x]) := if_pos h
theorem app5 (h : as.length < LIM) : appD (SM t M [x, .lst as]) (.own 5) v = some (SM t M [x, .lst (as ++ [v])]) := if_pos h
theorem ol4 : isOL (SM t M [.lst as, x]) (.own 4) = true := rfl
theorem ol5 : isOL (SM t M [x, .lst as]) (.own 5) = true := rfl
end
theorem flat_rep : ∀ w : Nat, (List.replicate w [D.int 0]).flatten = (List.replicate w (0 : Int)).map D.int
  | 0 => rfl
  | w + 1 => by rw [List.replicate_succ, List.flatten_cons, flat_rep w]; rfl
theorem taken_ap {t : SO} (ht : TOk t) {M : Mkr} (o : M.Ok) {c : Int} (gc : Good M c) {n w rate : Nat} {more : List Int} {rows : List (List Int)} (R : RowsOk M n w more rows) (hn : 1 ≤ n) (hn2 : n ≤ 10) (hw2 : w ≤ 10) (hr2 : rate ≤ 10) (hM : M.nodes.length < 20000) :
    ∃ ms rs M', m_taken_place (SM t M []) [.own 1, placeD more rows, .int (rate : Int), .int c] = some (.ok (placeD ms rs) (SM t M' [])) ∧
      Made M M' ms n (n * (w + 1)) (fun bs i => if val M bs c = 1 then (if i + rate < n then val M bs (more.getD (i + rate) 0) else 0) else val M bs (more.getD i 0)) ∧
      MadeR M M' rs n w (fun bs i j => if val M bs c = 1 then (if i + rate < n then val M bs ((rows.getD (i + rate) []).getD j 0) else 0) else val M bs ((rows.getD i []).getD j 0)) := by
  have h0 : PostOk t [] := ⟨ht _, rfl⟩
  have hs := SM_low (M := M) h0
  have ro := room_ap hs (more := more) (rows := rows)
  rw [R.l1] at ro
  have sn := smallI_len (show n < 100000 by omega)
  have eap : ∀ (M : Mkr) (xs : Sto), SM t M [] ++ xs = SM t M xs := fun _ _ => rfl
  have el : ∀ (M : Mkr), (SM t M []).length = 4 := fun _ => rfl
  have hp : ∀ s, insD s (placeD more rows) = some (38, [53, 54], [.tup (more.map .int), .tup (rows.map dSrc)]) := fun _ => rfl
  simp [m_taken_place, VM.run, g_taken_place, startD, ro, sn, hp, el, eap]
  generalize hX : forL _ _ _ _ _ _ = X
  obtain ⟨ρ', s', rfl, ms, rs, M', rfl, m1, m2, x7, x8, x9, rfl⟩ : ∃ ρ' s', X = some (.nx ρ' s') ∧ ∃ ms rs M', s' = SM t M' [.lst (ms.map .int), .lst (rs.map dSrc)] ∧
      Made M M' ms n (n * (w + 1)) (fun bs i => if val M bs c = 1 then (if i + rate < n then val M bs (more.getD (i + rate) 0) else 0) else val M bs (more.getD i 0)) ∧
      MadeR M M' rs n w (fun bs i j => if val M bs c = 1 then (if i + rate < n then val M bs ((rows.getD (i + rate) []).getD j 0) else 0) else val M bs ((rows.getD i []).getD j 0)) ∧
      ∃ x7 x8 x9, ρ' = [some (.own 1), some (placeD more rows), some (.int (rate : Int)), some (.int c), some (.int (n : Int)), some (.own 4), some (.own 5), x7, x8, x9, none] := by
    subst hX
    refine forL_rngP (P := fun k ρ' s' => ∃ ms rs M', s' = SM t M' [.lst (ms.map .int), .lst (rs.map dSrc)] ∧
      Made M M' ms k (k * (w + 1)) (fun bs i => if val M bs c = 1 then (if i + rate < n then val M bs (more.getD (i + rate) 0) else 0) else val M bs (more.getD i 0)) ∧
      MadeR M M' rs k w (fun bs i j => if val M bs c = 1 then (if i + rate < n then val M bs ((rows.getD (i + rate) []).getD j 0) else 0) else val M bs ((rows.getD i []).getD j 0)) ∧
      ∃ x7 x8 x9, ρ' = [some (.own 1), some (placeD more rows), some (.int (rate : Int)), some (.int c), some (.int (n : Int)), some (.own 4), some (.own 5), x7, x8, x9, none])
      ⟨[], [], M, rfl, by rw [Nat.zero_mul]; exact Made.nil o, MadeR.nil, none, none, none, rfl⟩ fun k hk ρ s1 hq => ?_
    obtain ⟨ms, rs, M1, rfl, m1, m2, x7, x8, x9, rfl⟩ := hq
    refine ⟨_, rfl, ?_⟩
    have hpo := postI ht (ms := ms) (rs := rs)
    have hm : ∀ M p, insO (SM t M p)[1]? = some (33, [39, 44, 45], [.int M.fst, .own 2, .own 3]) := fun _ _ => rfl
    have b1 : M1.nodes.length < 30000 := by have := m1.cnt; have : k * (w + 1) ≤ 10 * 11 := Nat.mul_le_mul (by omega) (by omega); omega
    have pk := mpick_ap hpo (M := M1) (by omega)
    have a3 : more[k]? = some (more.getD k 0) := some_getD (by rw [R.l1]; exact hk)
    have w0 : smallI (w : Int) = true := smallI_len (by omega)
    have ap4 := fun M v => app4 (t := t) (M := M) (as := ms.map D.int) (v := v) (x := .lst (rs.map dSrc)) (by rw [List.length_map, m1.len]; exact lt_LIM (by omega))
    have h4 : ∀ M as x, lstO (SM t M [.lst as, x])[4]? = some as := fun _ _ _ => rfl
    have h5 : ∀ M as x, lstO (SM t M [x, .lst as])[5]? = some as := fun _ _ _ => rfl
    obtain ⟨r0, rs0, er⟩ : ∃ r0 rs0, rows = r0 :: rs0 := by
      cases rows with
      | nil => have := R.l2; simp at this; omega
      | cons a l => exact ⟨a, l, rfl⟩
    have ew : r0.length = w := R.lw _ (by rw [er]; exact List.mem_cons_self)
    have lW : w ≤ LIM := Nat.le_of_lt (lt_LIM (by omega))
    have hpo2 : ∀ z : Int, PostOk t [.lst (ms.map D.int ++ [.int z]), .lst (rs.map dSrc)] := fun z => by
      have := postI ht (ms := ms ++ [z]) (rs := rs)
      rwa [List.map_append] at this
    have wi : ∀ (M : Mkr) (z : Int), m_QueuePlace_width (SM t M [.lst (ms.map .int ++ [.int z]), .lst (rs.map dSrc)]) [placeD more rows] = some (.ok (.int (w : Int)) (SM t M [.lst (ms.map .int ++ [.int z]), .lst (rs.map dSrc)])) := fun M z => by
      have := width_ap (SM_low (M := M) (hpo2 z)) (more := more) er
      rw [ew] at this
      exact this
    have R1 : ∀ {M2}, Ext M M2 → RowsOk M2 n w more rows := fun e => ⟨R.l1, R.l2, R.lw, fun a ha => (R.gm a ha).ext e, fun r hr a ha => (R.gr r hr a ha).ext e⟩
    have ap5 := fun M v y => app5 (t := t) (M := M) (as := rs.map dSrc) (v := v) (x := y) (by rw [List.length_map, m2.len]; exact lt_LIM (by omega))
    have fq : ∀ (src : Int) (r1 : List Int), Good M src → r1.length = w → (∀ a ∈ r1, Good M a) → (∀ bs, BitsOk M bs → val M bs src = if k + rate < n then val M bs (more.getD (k + rate) 0) else 0) → (∀ bs, BitsOk M bs → ∀ j, j < w → val M bs (r1.getD j 0) = if k + rate < n then val M bs ((rows.getD (k + rate) []).getD j 0) else 0) →
        ∃ zs M3, lcL (gNm 10) (VM.ret true) feT none [some (.own 1), some (placeD more rows), some (.int (rate : Int)), some (.int c), some (.int (n : Int)), some (.own 4), some (.own 5), some (.int (k : Int)), some (.bl (decide (k + rate < n))), some (dSrc r1), none] (rngD 0 w)
            (SM t (M1.pick c src (more.getD k 0)).2 [.lst (ms.map .int ++ [.int (M1.pick c src (more.getD k 0)).1]), .lst (rs.map dSrc)]) = some (zs.map D.int, SM t M3 [.lst (ms.map .int ++ [.int (M1.pick c src (more.getD k 0)).1]), .lst (rs.map dSrc)]) ∧
          Made M M3 (ms ++ [(M1.pick c src (more.getD k 0)).1]) (k + 1) ((k + 1) * (w + 1)) (fun bs i => if val M bs c = 1 then (if i + rate < n then val M bs (more.getD (i + rate) 0) else 0) else val M bs (more.getD i 0)) ∧
          MadeR M M3 (rs ++ [zs]) (k + 1) w (fun bs i j => if val M bs c = 1 then (if i + rate < n then val M bs ((rows.getD (i + rate) []).getD j 0) else 0) else val M bs ((rows.getD i []).getD j 0)) := by
      intro src r1 gs e1 g1 v1 v2
      have gk := R.gm _ (mem_getD (l := more) (k := k) (by rw [R.l1]; exact hk))
      have r := pick_good m1.ok (gc.ext m1.ext) (gs.ext m1.ext) (gk.ext m1.ext)
      have x1 := m1.ext.trans r.ext
      have c1 : (M1.pick c src (more.getD k 0)).2.nodes.length < 30000 := by have := r.len; have := m1.cnt; have : k * (w + 1) ≤ 10 * 11 := Nat.mul_le_mul (by omega) (by omega); omega
      obtain ⟨zs, M3, hlc, md⟩ := picks (hpo2 (M1.pick c src (more.getD k 0)).1) r.ok (gc.ext x1) (R1 x1) hk e1 (fun a ha => (g1 a ha).ext x1) (by omega) (x2 := some (.int (rate : Int))) (x4 := some (.int (n : Int))) (x5 := some (.own 4)) (x6 := some (.own 5)) (x8 := some (.bl (decide (k + rate < n))))
      refine ⟨zs, M3, hlc, ?_, ?_⟩
      · refine ((m1.snoc r.ext r.ok r.good r.len fun bs b => ?_).mono md.ext md.ok ?_)
        · rw [r.val bs (b.ext m1.ext), val_ext b m1.ext gc, val_ext b m1.ext gs, val_ext b m1.ext gk, v1 bs b]
        · have h1 := md.cnt
          have h2 := r.len
          have h3 := m1.cnt
          have : (k + 1) * (w + 1) = k * (w + 1) + (w + 1) := by rw [Nat.succ_mul]
          omega
      · refine (m2.mono m1.ext r.ext).snoc x1 md fun bs b j hj => ?_
        have g2 := R.gr _ (mem_getR (l := rows) (k := k) (by rw [R.l2]; exact hk))
        have l2 := R.lw _ (mem_getR (l := rows) (k := k) (by rw [R.l2]; exact hk))
        rw [val_ext b x1 gc, val_ext b x1 (g1 _ (mem_getD (by rw [e1]; exact hj))), val_ext b x1 (g2 _ (mem_getD (by rw [l2]; exact hj))), v2 bs b j hj]
    by_cases hr : k + rate < n
    · have i1 := atI_ofInts hs (l := more) (i := (k : Int) + (rate : Int)) (by omega) (by rw [R.l1]; omega)
      have i2 := atI_ofRows hs (l := rows) (i := (k : Int) + (rate : Int)) (by omega) (by rw [R.l2]; omega)
      rw [show ((k : Int) + (rate : Int)).toNat = k + rate by omega] at i1 i2
      have e2 : (k : Int) + (rate : Int) < (n : Int) := by omega
      have kr : k + rate < more.length := by rw [R.l1]; exact hr
      have kr2 : k + rate < rows.length := by rw [R.l2]; exact hr
      obtain ⟨zs, M3, hlc, q1, q2⟩ := fq (more.getD (k + rate) 0) (rows.getD (k + rate) []) (R.gm _ (mem_getD kr)) (R.lw _ (mem_getR kr2)) (R.gr _ (mem_getR kr2)) (fun bs b => by rw [if_pos hr]) (fun bs b j hj => by rw [if_pos hr])
      rw [show decide (k + rate < n) = true from decide_eq_true hr] at hlc
      simp [-List.getD_eq_getElem?_getD, -List.map_append, hp, e2, i1, i2, atI_nat', a3, hm, pk, h4, h5, ap4, wi, w0, fLc_ap, lW]
      rw [hlc]
      simp [-List.getD_eq_getElem?_getD, -List.map_append, ap5]
      exact ⟨ms ++ [_], rs ++ [zs], M3, by rw [List.map_append, List.map_append]; rfl, q1, q2⟩
    · have e2 : ¬ (k : Int) + (rate : Int) < (n : Int) := by omega
      have rz := flat_rep w
      have w1 : (w : Int) ≤ 1000 := by omega
      have rzd : D.tup ((List.replicate w (0 : Int)).map D.int) = dSrc (List.replicate w 0) := rfl
      obtain ⟨zs, M3, hlc, q1, q2⟩ := fq 0 (List.replicate w 0) (good_0 o) (by simp) (fun a ha => by rw [(List.mem_replicate.mp ha).2]; exact good_0 o) (fun bs b => by rw [if_neg hr]; exact val_0 b o) (fun bs b j hj => by
        rw [if_neg hr, List.getD_eq_getElem?_getD, List.getElem?_replicate, if_pos hj]
        exact val_0 b o)
      rw [show decide (k + rate < n) = false from decide_eq_false hr] at hlc
      simp [-List.getD_eq_getElem?_getD, -List.map_append, -List.map_replicate, hp, e2, atI_nat', a3, hm, pk, h4, h5, ap4, wi, w0, fLc_ap, lW, rz, rzd, w1]
      rw [hlc]
      simp [-List.getD_eq_getElem?_getD, -List.map_append, ap5]
      exact ⟨ms ++ [_], rs ++ [zs], M3, by rw [List.map_append, List.map_append]; rfl, q1, q2⟩
  have hlow := SM_low (M := M') (postI ht (ms := ms) (rs := rs))
  have pm := place_make hlow (x := .own 4) (y := .own 5) (more := ms) (rows := rs) rfl rfl
  have hf : fin false 4 (placeD ms rs) (SM t M' [.lst (ms.map .int), .lst (rs.map dSrc)]) = some (.ok (placeD ms rs) (SM t M' [])) := fin_app (s := SM t M' []) (SM_low h0) (low_placeD _ _ _)
  simp [pm, hf]
  exact ⟨ms, rs, M', ⟨rfl, rfl⟩, m1, m2⟩
end LW
set_option Elab.async false
set_option maxRecDepth 100000
set_option maxHeartbeats 4000000
set_option linter.all false
set_option autoImplicit false
namespace LW
open PySem L2 VM
/-! ### nodes are told -/
section
variable {s : Sto} (hs : Low s) {vs : List Int} {l : Nat} (hl : lstO s[l]? = some (vs.map D.int))
include hs hl
theorem node_told_ap {p : List Int × Int} (l1 : 1 ≤ p.1.length) (l3 : p.1.length ≤ 3) (hsrc : ∀ a ∈ p.1, 0 ≤ a ∧ a < vs.length) (hb : ∀ i, vs.getD i 0 = 0 ∨ vs.getD i 0 = 1) (t0 : 0 ≤ p.2) :
    m_node_told s [dNode p, .own l] = some (.ok (.int (told p vs)) s) := by
  obtain ⟨src, t⟩ := p
  have t0 : 0 ≤ t := t0
  have ia := fun a (h : 0 ≤ a ∧ a < (vs.length : Int)) => atI_ofInts hs (l := vs) h.1 h.2
  have sh : ∀ i j : Int, (i = 0 ∨ i = 1) → 0 ≤ j → j ≤ 3 → shOk i j = true := fun i j h h0 h1 => (shOk_iff _ _).mpr ⟨h0, by omega, by omega⟩
  match src, l1, l3, hsrc with
  | [a], _, _, hsrc =>
    have a1 := ia a (hsrc a (by simp))
    have s0 := sh _ 0 (hb a.toNat) (by decide) (by decide)
    have hr : (0 : Int) ≤ vs.getD a.toNat 0 := by rcases hb a.toNat with e | e <;> omega
    have e : rowOf vs [a] = vs.getD a.toNat 0 := by simp [rowOf]
    simp [-List.getD_eq_getElem?_getD, m_node_told, VM.run, g_node_told, startD, dNode, dSrc, rngD_1, forL_cons, forL_nil, hl, a1, shlI, shrI, s0, hr, PyProof.Rows.bitAnd_m1, finI hs, told, e]
  | [a, b], _, _, hsrc =>
    have a1 := ia a (hsrc a (by simp))
    have b1 := ia b (hsrc b (by simp))
    have s0 := sh _ 0 (hb a.toNat) (by decide) (by decide)
    have s1 := sh _ 1 (hb b.toNat) (by decide) (by decide)
    have hr : (0 : Int) ≤ vs.getD a.toNat 0 + vs.getD b.toNat 0 * 2 := by rcases hb a.toNat with e | e <;> rcases hb b.toNat with e2 | e2 <;> omega
    have e : rowOf vs [a, b] = vs.getD a.toNat 0 + vs.getD b.toNat 0 * 2 := by simp [rowOf]; omega
    simp [-List.getD_eq_getElem?_getD, m_node_told, VM.run, g_node_told, startD, dNode, dSrc, rngD_2, forL_cons, forL_nil, hl, a1, b1, shlI, shrI, s0, s1, hr, PyProof.Rows.bitAnd_m1, finI hs, told, e]
  | [a, b, c], _, _, hsrc =>
    have a1 := ia a (hsrc a (by simp))
    have b1 := ia b (hsrc b (by simp))
    have c1 := ia c (hsrc c (by simp))
    have s0 := sh _ 0 (hb a.toNat) (by decide) (by decide)
    have s1 := sh _ 1 (hb b.toNat) (by decide) (by decide)
    have s2 := sh _ 2 (hb c.toNat) (by decide) (by decide)
    have hr : (0 : Int) ≤ vs.getD a.toNat 0 + vs.getD b.toNat 0 * 2 + vs.getD c.toNat 0 * 4 := by rcases hb a.toNat with e | e <;> rcases hb b.toNat with e2 | e2 <;> rcases hb c.toNat with e3 | e3 <;> omega
    have e : rowOf vs [a, b, c] = vs.getD a.toNat 0 + vs.getD b.toNat 0 * 2 + vs.getD c.toNat 0 * 4 := by simp [rowOf]; omega
    simp [-List.getD_eq_getElem?_getD, m_node_told, VM.run, g_node_told, startD, dNode, dSrc, rngD_3, forL_cons, forL_nil, hl, a1, b1, c1, shlI, shrI, s0, s1, s2, hr, PyProof.Rows.bitAnd_m1, finI hs, told, e]
end
end LW
set_option Elab.async false
set_option maxRecDepth 100000
set_option maxHeartbeats 4000000
set_option linter.all false
set_option autoImplicit false
namespace LW
open PySem L2 VM
theorem vals_take {nodes : List (List Int × Int)} {bs : List Int} {i : Nat} (hi : i < nodes.length) : vals bs (nodes.take (i + 1)) = vals bs (nodes.take i) ++ [told nodes[i] (vals bs (nodes.take i))] := by
  rw [List.take_succ_eq_append_getElem hi, vals_app]
theorem net_values_ap {s : Sto} (hs : Low s) {names : List Str} {nodes : List (List Int × Int)} {outs : List (Str × Int)} {bs : List Int} (hb : ∀ i, bs.getD i 0 = 0 ∨ bs.getD i 0 = 1) (hl : bs.length < 10000) (hn : nodes.length < 50000)
    (ok : ∀ k (hk : k < nodes.length), NodeOk (2 + (bs.length : Int) + (k : Int)) nodes[k]) :
    m_net_values s [netD names [] nodes outs, .tup [], .tup (bs.map .int)] = some (.ok (.lst ((vals (0 :: 1 :: bs) nodes).map .int)) s) := by
  have hp : ∀ s, insD s (netD names [] nodes outs) = some (32, [20, 41, 44, 21], [.tup (names.map .str), .tup [], .tup (nodes.map dNode), .tup (outs.map dOut)]) := fun _ => rfl
  have hb2 : ∀ i, (0 :: 1 :: bs : List Int).getD i 0 = 0 ∨ (0 :: 1 :: bs : List Int).getD i 0 = 1 := fun i => by
    match i with
    | 0 => exact .inl rfl
    | 1 => exact .inr rfl
    | i + 2 => exact hb i
  have l1 : bs.length + 2 ≤ LIM := Nat.le_of_lt (lt_LIM (by omega))
  have l1' : 2 + bs.length ≤ LIM := Nat.le_of_lt (lt_LIM (by omega))
  simp [-List.getD_eq_getElem?_getD, m_net_values, VM.run, g_net_values, startD, hp, l1, l1']
  generalize hX : forL _ _ _ _ _ _ = X
  obtain ⟨ρ', s', rfl, rfl, x, rfl⟩ : ∃ ρ' s', X = some (.nx ρ' s') ∧ s' = s ++ [.lst ((vals (0 :: 1 :: bs) (nodes.take (nodes.map dNode).length)).map .int)] ∧
      ∃ x, ρ' = [some (netD names [] nodes outs), some (.tup []), some (.tup (bs.map .int)), some (.own s.length), x] := by
    subst hX
    refine forL_P (P := fun i ρ' s' => s' = s ++ [.lst ((vals (0 :: 1 :: bs) (nodes.take i)).map .int)] ∧
      ∃ x, ρ' = [some (netD names [] nodes outs), some (.tup []), some (.tup (bs.map .int)), some (.own s.length), x]) ⟨rfl, none, rfl⟩ fun i hi ρ s1 hq => ?_
    obtain ⟨rfl, x, rfl⟩ := hq
    rw [List.length_map] at hi
    have hlow : Low (s ++ [.lst ((vals (0 :: 1 :: bs) (nodes.take i)).map D.int)]) := hs.snoc (lows_mapT (G := D.int) (fun _ => rfl) _)
    have hlen : (vals (0 :: 1 :: bs) (nodes.take i)).length = bs.length + 2 + i := by rw [vals_len, List.length_take]; simp; omega
    have no := ok i hi
    have nt := node_told_ap hlow (vs := vals (0 :: 1 :: bs) (nodes.take i)) (l := s.length) (by simp) no.l1 no.l3 (fun a ha => by have := no.src a ha; omega) (vals_bit _ _ hb2) no.t0
    have hg : (nodes.map dNode)[i]'(by rw [List.length_map]; exact hi) = dNode nodes[i] := by simp
    refine ⟨_, rfl, ?_⟩
    have lm : (vals (0 :: 1 :: bs) (nodes.take i)).length < LIM := lt_LIM (by omega)
    have la : ∀ ds : List D, lstAt (s ++ [.lst ds]) s.length = some ds := fun ds => by simp [lstAt]
    simp [-List.getD_eq_getElem?_getD, nt, appD, lm, vals_take hi, la]
  rw [List.length_map, List.take_length]
  have hf : fin false s.length (.own s.length) (s ++ [.lst ((vals (0 :: 1 :: bs) nodes).map D.int)]) = some (.ok (.lst ((vals (0 :: 1 :: bs) nodes).map D.int)) s) := fin_frz hs (lows_mapT (G := D.int) (fun _ => rfl) _)
  simp [hf]
end LW
set_option Elab.async false
set_option maxRecDepth 100000
set_option maxHeartbeats 4000000
set_option linter.all false
set_option autoImplicit false
namespace LW
open PySem L2 VM
theorem bits_ap {s : Sto} (hs : Low s) {bs : List Int} (hb : ∀ a ∈ bs, a = 0 ∨ a = 1) (hl : bs.length < 10000) : m_is_bits s [.tup (bs.map .int), .int (bs.length : Int)] = some (.ok (.bl true) s) := by
  have l1 : bs.length ≤ LIM := Nat.le_of_lt (lt_LIM (by omega))
  have ha : bs.all (fun i => decide (0 ≤ i) && decide (i < 2)) = true := List.all_eq_true.mpr fun i hi => by
    rcases hb i hi with rfl | rfl <;> decide
  simp [m_is_bits, VM.run, g_is_bits, startD, fLc_ap, l1]
  rw [lcL_ml (F := fun (i : Int) => D.bl (decide (0 ≤ i) && decide (i < 2)))]
  rotate_left
  · intro i hi
    simp [word_int hs]
  simp [ha, finB hs]
theorem net_cycle_ap {s : Sto} (hs : Low s) {names : List Str} {nodes : List (List Int × Int)} {outs : List (Str × Int)} {bs : List Int} (hb : ∀ a ∈ bs, a = 0 ∨ a = 1) (hl : bs.length < 10000) (hn : nodes.length < 50000) (hN : names.length = bs.length)
    (ok : ∀ k (hk : k < nodes.length), NodeOk (2 + (bs.length : Int) + (k : Int)) nodes[k]) (ho : ∀ p ∈ outs, 0 ≤ p.2 ∧ p.2 < 2 + (bs.length : Int) + (nodes.length : Int)) (hol : outs.length < 10000) :
    m_net_cycle s [netD names [] nodes outs, .tup [], .tup (bs.map .int)] = some (.ok (.tup [.tup (outs.map fun p => .int ((vals (0 :: 1 :: bs) nodes).getD p.2.toNat 0)), .tup []]) s) := by
  have hp : ∀ s, insD s (netD names [] nodes outs) = some (32, [20, 41, 44, 21], [.tup (names.map .str), .tup [], .tup (nodes.map dNode), .tup (outs.map dOut)]) := fun _ => rfl
  have b1 := bits_ap hs hb hl
  have b0 := bits_ap hs (bs := []) (fun a h => nomatch h) (by decide)
  simp only [List.map_nil, List.length_nil, Int.natCast_zero] at b0
  have hb2 : ∀ i, bs.getD i 0 = 0 ∨ bs.getD i 0 = 1 := fun i => by
    by_cases h : i < bs.length
    · exact hb _ (mem_getD h)
    · left
      rw [List.getD_eq_getElem?_getD, List.getElem?_eq_none (by omega)]
      rfl
  have nv := net_values_ap hs (names := names) (outs := outs) hb2 hl hn ok
  have l1 : outs.length ≤ LIM := Nat.le_of_lt (lt_LIM (by omega))
  simp [-List.getD_eq_getElem?_getD, m_net_cycle, VM.run, g_net_cycle, startD, hp, hN, b0, b1, nv, fLc_ap, l1]
  rw [lcL_ml (F := fun (p : Str × Int) => D.int ((vals (0 :: 1 :: bs) nodes).getD p.2.toNat 0))]
  rotate_left
  · intro p hp'
    have h := ho p hp'
    have e := atI_ofInts hs (l := vals (0 :: 1 :: bs) nodes) h.1 (by rw [vals_len]; simp; omega)
    simp [-List.getD_eq_getElem?_getD, dOut, e]
  simp [-List.getD_eq_getElem?_getD, lcL_nil, chk_none]
  refine fin_low hs ?_
  have := lows_mapT (n := s.length) (G := fun (p : Str × Int) => D.int ((vals (0 :: 1 :: bs) nodes).getD p.2.toNat 0)) (fun _ => rfl) outs
  simp only [low, lows, this, Bool.and_self]
end LW
set_option Elab.async false
set_option maxRecDepth 100000
set_option maxHeartbeats 4000000
set_option linter.all false
set_option autoImplicit false
namespace LW
open PySem L2 VM
noncomputable abbrev feP : VM.M D := fMeth 33 2 m_NodeMaker_either (fVar 0) (fCons (fOp ixD (fVar 9) (fVar 12)) (fCons (fMeth 33 2 m_NodeMaker_both (fVar 0) (fCons (fVar 11) (fCons (fOp ixD (fOp ixD (fVar 2) (fVar 10)) (fVar 12)) (fNil)))) (fNil)))
theorem eithers {t : SO} {post : Sto} (h : PostOk t post) {M : Mkr} (o : M.Ok) {here : Int} (gh : Good M here) {r : List Int} {w j : Nat} {ws : List (List Int)} {x1 x3 x4 x5 x6 x7 x8 : Option D} (hj : j < ws.length) (lw : ∀ r ∈ ws, r.length = w) (gw : ∀ r ∈ ws, ∀ a ∈ r, Good M a) (e1 : r.length = w) (g1 : ∀ a ∈ r, Good M a) (hn : M.nodes.length + 2 * w < 40000) :
    ∃ zs M', lcL (gNm 12) (VM.ret true) feP none [some (.own 1), x1, some (.lst (ws.map dSrc)), x3, x4, x5, x6, x7, x8, some (.tup (r.map .int)), some (.int (j : Int)), some (.int here), none] (rngD 0 w) (SM t M post) = some (zs.map D.int, SM t M' post) ∧
      Made M M' zs w (w * 2) fun bs i => val M bs (r.getD i 0) + val M bs here * val M bs ((ws.getD j []).getD i 0) - val M bs (r.getD i 0) * (val M bs here * val M bs ((ws.getD j []).getD i 0)) := by
  have e2 := lw _ (mem_getR hj)
  have g2 := gw _ (mem_getR hj)
  obtain ⟨ys, s', e, zs, M', rfl, rfl, m⟩ := lcL_rngP (gt := gNm 12) (ft := VM.ret true) (fe := feP) (ρ := [some (.own 1), x1, some (.lst (ws.map dSrc)), x3, x4, x5, x6, x7, x8, some (.tup (r.map .int)), some (.int (j : Int)), some (.int here), none]) (lo := 0) (n := w) (s := SM t M post)
    (P := fun i acc s => ∃ zs M', acc = zs.map D.int ∧ s = SM t M' post ∧ Made M M' zs i (i * 2) fun bs i => val M bs (r.getD i 0) + val M bs here * val M bs ((ws.getD j []).getD i 0) - val M bs (r.getD i 0) * (val M bs here * val M bs ((ws.getD j []).getD i 0))) ⟨[], M, rfl, rfl, by rw [Nat.zero_mul]; exact Made.nil o⟩ fun i hi acc s hp => by
    obtain ⟨zs, M1, rfl, rfl, m⟩ := hp
    refine ⟨_, rfl, rfl, ?_⟩
    have hm : ∀ M, insO (SM t M post)[1]? = some (33, [39, 44, 45], [.int M.fst, .own 2, .own 3]) := fun _ => rfl
    have a1 : r[i]? = some (r.getD i 0) := some_getD (by omega)
    have a2 : (ws.getD j [])[i]? = some ((ws.getD j []).getD i 0) := some_getD (by omega)
    have a3 := some_getR hj
    have G1 := g1 _ (mem_getD (l := r) (k := i) (by omega))
    have G2 := g2 _ (mem_getD (l := ws.getD j []) (k := i) (by omega))
    have c1 := m.cnt
    have r1 := both_good m.ok (gh.ext m.ext) (G2.ext m.ext)
    have c2 := r1.len
    have r2 := either_good r1.ok ((G1.ext m.ext).ext r1.ext) r1.good
    have c3 := r2.len
    have bo := both_ap h (M := M1) (by omega) here ((ws.getD j []).getD i 0)
    have ei := either_ap h (M := (M1.both here ((ws.getD j []).getD i 0)).2) (by omega) (r.getD i 0) (M1.both here ((ws.getD j []).getD i 0)).1
    simp [-List.getD_eq_getElem?_getD, hm, atI_nat', a1, a3, dSrc, a2, bo, ei]
    refine ⟨zs ++ [((M1.both here ((ws.getD j []).getD i 0)).2.either (r.getD i 0) (M1.both here ((ws.getD j []).getD i 0)).1).1], by rw [List.map_append]; rfl, ((M1.both here ((ws.getD j []).getD i 0)).2.either (r.getD i 0) (M1.both here ((ws.getD j []).getD i 0)).1).2, rfl, ?_⟩
    have sn := m.snoc (c := 2) (r1.ext.trans r2.ext) r2.ok r2.good (by omega) fun bs b => by
      have b1 := b.ext m.ext
      show _ = _
      rw [r2.val bs (b1.ext r1.ext), r1.val bs b1, val_ext b1 r1.ext (G1.ext m.ext), val_ext b m.ext gh, val_ext b m.ext G1, val_ext b m.ext G2]
    rw [Nat.succ_mul]
    exact sn
  exact ⟨zs, M', e, m⟩
end LW
set_option Elab.async false
set_option maxRecDepth 100000
set_option maxHeartbeats 4000000
set_option linter.all false
set_option autoImplicit false
namespace LW
open PySem L2 VM
/-- c words are held -/
def lenV (M : Mkr) (bs : List Int) (more : List Int) (c : Nat) : Int := (if c = 0 then 1 else val M bs (more.getD (c - 1) 0)) * (1 - val M bs (more.getD c 0))
/-- a row behind j words that are put -/
def orF (M : Mkr) (bs : List Int) (puts : Int) (more : List Int) (row : List Int) (ws : List (List Int)) (k : Nat) : Nat → Nat → Int
  | 0, i => val M bs (row.getD i 0)
  | j + 1, i => orF M bs puts more row ws k j i + val M bs puts * lenV M bs more (k - j) * val M bs ((ws.getD j []).getD i 0) - orF M bs puts more row ws k j i * (val M bs puts * lenV M bs more (k - j) * val M bs ((ws.getD j []).getD i 0))
noncomputable abbrev fbP : MS := fSeq (fAsg (fMeth 33 2 m_NodeMaker_both (fVar 0) (fCons (fVar 3) (fCons (fCall 3 m_is_length (fCons (fVar 0) (fCons (fVar 1) (fCons (fOp subD (fVar 8) (fVar 10)) (fNil))))) (fNil)))) (gNm 11)) (fAsg (fCB (c1 tupleD) (fCons (fLc (fRng1 (fMeth0 38 m_QueuePlace_width (fVar 1))) (gNm 12) (VM.ret true) feP [12]) (fNil))) (gNm 9))
theorem inner_put {t : SO} {post : Sto} (h : PostOk t post) {M : Mkr} (o : M.Ok) {c : Int} (gc : Good M c) {n w k m : Nat} {more : List Int} {rows ws : List (List Int)} {x4 x5 x6 x7 y10 y11 : Option D} (R : RowsOk M n w more rows) (hk : k < n) (hm : m ≤ ws.length) (hm2 : m ≤ k + 1) (hn2 : n ≤ 10) (hw2 : w ≤ 10)
    (lw : ∀ r ∈ ws, r.length = w) (gw : ∀ r ∈ ws, ∀ a ∈ r, Good M a) (hM : M.nodes.length < 25000) :
    ∃ r M' x10 x11, forL (gNm 10) fbP none (rngD 0 m) [some (.own 1), some (placeD more rows), some (.lst (ws.map dSrc)), some (.int c), x4, x5, x6, x7, some (.int (k : Int)), some (dSrc (rows.getD k [])), y10, y11, none] (SM t M post) =
        some (.nx [some (.own 1), some (placeD more rows), some (.lst (ws.map dSrc)), some (.int c), x4, x5, x6, x7, some (.int (k : Int)), some (dSrc r), x10, x11, none] (SM t M' post)) ∧
      Made M M' r w (m * (w * 2 + 3)) fun bs i => orF M bs c more (rows.getD k []) ws k m i := by
  have hk2 : k < rows.length := by rw [R.l2]; exact hk
  have lk := R.lw _ (mem_getR hk2)
  have gk := R.gr _ (mem_getR hk2)
  have w0 : smallI (w : Int) = true := smallI_len (by omega)
  have lW : w ≤ LIM := Nat.le_of_lt (lt_LIM (by omega))
  obtain ⟨r0, rs0, er⟩ : ∃ r0 rs0, rows = r0 :: rs0 := by
    cases rows with
    | nil => simp at hk2
    | cons a l => exact ⟨a, l, rfl⟩
  have ew : r0.length = w := R.lw _ (by rw [er]; exact List.mem_cons_self)
  have hp : ∀ s, insD s (placeD more rows) = some (38, [53, 54], [.tup (more.map .int), .tup (rows.map dSrc)]) := fun _ => rfl
  have hmm : ∀ M, insO (SM t M post)[1]? = some (33, [39, 44, 45], [.int M.fst, .own 2, .own 3]) := fun _ => rfl
  have wi : ∀ (M : Mkr), m_QueuePlace_width (SM t M post) [placeD more rows] = some (.ok (.int (w : Int)) (SM t M post)) := fun M => by
    have := width_ap (SM_low (M := M) h) (more := more) er
    rw [ew] at this
    exact this
  obtain ⟨ρ', s', e, r, M', x10, x11, rfl, rfl, md⟩ := forL_rngP (gt := gNm 10) (fb := fbP) (lo := 0) (n := m) (ρ := [some (.own 1), some (placeD more rows), some (.lst (ws.map dSrc)), some (.int c), x4, x5, x6, x7, some (.int (k : Int)), some (dSrc (rows.getD k [])), y10, y11, none]) (s := SM t M post)
    (P := fun j ρ' s' => ∃ r M' x10 x11, ρ' = [some (.own 1), some (placeD more rows), some (.lst (ws.map dSrc)), some (.int c), x4, x5, x6, x7, some (.int (k : Int)), some (dSrc r), x10, x11, none] ∧ s' = SM t M' post ∧ Made M M' r w (j * (w * 2 + 3)) fun bs i => orF M bs c more (rows.getD k []) ws k j i)
    ⟨rows.getD k [], M, y10, y11, rfl, rfl, ⟨.refl M, o, lk, gk, by omega, fun bs b i hi => rfl⟩⟩ fun j hj ρ s hq => by
    obtain ⟨r, M1, x10, x11, rfl, rfl, md⟩ := hq
    refine ⟨_, rfl, ?_⟩
    have cnt := md.cnt
    have bj : j * (w * 2 + 3) ≤ 10 * 23 := Nat.mul_le_mul (by omega) (by omega)
    have R1 : ∀ {M2}, Ext M M2 → ∀ a ∈ more, Good M2 a := fun e a ha => (R.gm a ha).ext e
    obtain ⟨z, M2, le, lg⟩ := len_ap h (M := M1) (by omega) (more := more) (rows := rows) (c := k - j) (by rw [R.l1]; omega)
    obtain ⟨q1, q2, q3, q4, q5⟩ := lg md.ok (R1 md.ext)
    have bo := both_ap h (M := M2) (by omega) c z
    have x2 := md.ext.trans q1
    have rb := both_good q2 (gc.ext x2) q3
    have c3 := rb.len
    have x3 := x2.trans rb.ext
    obtain ⟨zs, M4, hlc, me⟩ := eithers h rb.ok rb.good (j := j) (by omega) lw (fun r hr a ha => (gw r hr a ha).ext x3) md.len (fun a ha => ((md.good a ha).ext q1).ext rb.ext) (by omega) (x1 := some (placeD more rows)) (x3 := some (.int c)) (x4 := x4) (x5 := x5) (x6 := x6) (x7 := x7) (x8 := some (.int (k : Int)))
    have ej : (k : Int) - (j : Int) = ((k - j : Nat) : Int) := by omega
    simp [-List.getD_eq_getElem?_getD, hmm, ej, le, bo, hp, wi, w0, fLc_ap, lW]
    rw [show D.tup (List.map D.int r) = dSrc r from rfl] at hlc
    rw [hlc]
    simp [-List.getD_eq_getElem?_getD]
    refine ⟨zs, rfl, M4, rfl, ⟨x3.trans me.ext, me.ok, me.len, me.good, ?_, fun bs b i hi => ?_⟩⟩
    · have h4 := me.cnt
      rw [Nat.succ_mul]
      omega
    · have b1 := b.ext md.ext
      have b2 := b.ext x2
      have gr := md.good _ (mem_getD (l := r) (k := i) (by rw [md.len]; exact hi))
      have gm : ∀ {q}, q < more.length → Good M (more.getD q 0) := fun hq => R.gm _ (mem_getD hq)
      have hlen : k - j < more.length := by rw [R.l1]; omega
      have e0 : val M1 bs (more.getD (k - j) 0) = val M bs (more.getD (k - j) 0) := val_ext b md.ext (gm hlen)
      have e1 : k - j ≠ 0 → val M1 bs (more.getD (k - j - 1) 0) = val M bs (more.getD (k - j - 1) 0) := fun hne => val_ext b md.ext (gm (by omega))
      have gz : Good M ((ws.getD j []).getD i 0) := gw _ (mem_getR (by omega)) _ (mem_getD (by rw [lw _ (mem_getR (by omega))]; exact hi))
      have q5' := q5 bs b1
      have e2 : val M2 bs z = lenV M bs more (k - j) := by
        rw [q5', e0]
        unfold lenV
        by_cases hz : k - j = 0
        · rw [if_pos hz, if_pos hz]
        · rw [if_neg hz, if_neg hz, e1 hz]
      rw [me.vl bs (b.ext x3) i hi, rb.val bs b2, e2, val_ext b x2 gc, val_ext b2 rb.ext (gr.ext q1), val_ext b1 q1 gr, md.vl bs b i hi, val_ext b x3 gz]
      rfl
  exact ⟨r, M', x10, x11, e, md⟩
end LW
set_option Elab.async false
set_option maxRecDepth 100000
set_option maxHeartbeats 4000000
set_option linter.all false
set_option autoImplicit false
namespace LW
open PySem L2 VM
theorem orF_ext {M M' : Mkr} {bs : List Int} (b : BitsOk M bs) (e : Ext M M') {c : Int} (gc : Good M c) {more row : List Int} {ws : List (List Int)} {k w i : Nat} (gm : ∀ a ∈ more, Good M a) (hk : k < more.length) (gr : Good M (row.getD i 0)) (gw : ∀ j, j < ws.length → Good M ((ws.getD j []).getD i 0)) :
    ∀ m, m ≤ ws.length → m ≤ k + 1 → orF M' bs c more row ws k m i = orF M bs c more row ws k m i
  | 0, _, _ => val_ext b e gr
  | m + 1, h1, h2 => by
    have ih := orF_ext (w := w) b e gc gm hk gr gw m (by omega) (by omega)
    have e1 : lenV M' bs more (k - m) = lenV M bs more (k - m) := by
      unfold lenV
      rw [val_ext b e (gm _ (mem_getD (show k - m < more.length by omega)))]
      by_cases hz : k - m = 0
      · rw [if_pos hz, if_pos hz]
      · rw [if_neg hz, if_neg hz, val_ext b e (gm _ (mem_getD (show k - m - 1 < more.length by omega)))]
    rw [orF, orF, ih, e1, val_ext b e gc, val_ext b e (gw m (by omega))]
theorem put_ap {t : SO} (ht : TOk t) {M : Mkr} (o : M.Ok) {c : Int} (gc : Good M c) {n w : Nat} {more : List Int} {rows ws : List (List Int)} (R : RowsOk M n w more rows) (hn : 1 ≤ n) (hn2 : n ≤ 10) (hw2 : w ≤ 10)
    (lw : ∀ r ∈ ws, r.length = w) (gw : ∀ r ∈ ws, ∀ a ∈ r, Good M a) (hws : ws.length ≤ 10) (hM : M.nodes.length < 15000) :
    ∃ ms rs M', m_put_place (SM t M []) [.own 1, placeD more rows, .lst (ws.map dSrc), .int c] = some (.ok (placeD ms rs) (SM t M' [])) ∧
      Made M M' ms n (n * 500) (fun bs i => if val M bs c = 1 then (if ws.length ≤ i then val M bs (more.getD (i - ws.length) 0) else 1) else val M bs (more.getD i 0)) ∧
      MadeR M M' rs n w (fun bs i j => orF M bs c more (rows.getD i []) ws i (min ws.length (i + 1)) j) := by
  have h0 : PostOk t [] := ⟨ht _, rfl⟩
  have hs := SM_low (M := M) h0
  have ro := room_ap hs (more := more) (rows := rows)
  rw [R.l1] at ro
  have sn := smallI_len (show n < 100000 by omega)
  have eap : ∀ (M : Mkr) (xs : Sto), SM t M [] ++ xs = SM t M xs := fun _ _ => rfl
  have el : ∀ (M : Mkr), (SM t M []).length = 4 := fun _ => rfl
  have hp : ∀ s, insD s (placeD more rows) = some (38, [53, 54], [.tup (more.map .int), .tup (rows.map dSrc)]) := fun _ => rfl
  simp [m_put_place, VM.run, g_put_place, startD, ro, sn, hp, el, eap]
  generalize hX : forL _ _ _ _ _ _ = X
  obtain ⟨ρ', s', rfl, ms, rs, M', rfl, m1, m2, x8, x9, x10, x11, rfl⟩ : ∃ ρ' s', X = some (.nx ρ' s') ∧ ∃ ms rs M', s' = SM t M' [.lst (ms.map .int), .lst (rs.map dSrc)] ∧
      Made M M' ms n (n * 500) (fun bs i => if val M bs c = 1 then (if ws.length ≤ i then val M bs (more.getD (i - ws.length) 0) else 1) else val M bs (more.getD i 0)) ∧
      MadeR M M' rs n w (fun bs i j => orF M bs c more (rows.getD i []) ws i (min ws.length (i + 1)) j) ∧
      ∃ x8 x9 x10 x11, ρ' = [some (.own 1), some (placeD more rows), some (.lst (ws.map dSrc)), some (.int c), some (.int (n : Int)), some (.int (ws.length : Int)), some (.own 4), some (.own 5), x8, x9, x10, x11, none] := by
    subst hX
    refine forL_rngP (P := fun k ρ' s' => ∃ ms rs M', s' = SM t M' [.lst (ms.map .int), .lst (rs.map dSrc)] ∧
      Made M M' ms k (k * 500) (fun bs i => if val M bs c = 1 then (if ws.length ≤ i then val M bs (more.getD (i - ws.length) 0) else 1) else val M bs (more.getD i 0)) ∧
      MadeR M M' rs k w (fun bs i j => orF M bs c more (rows.getD i []) ws i (min ws.length (i + 1)) j) ∧
      ∃ x8 x9 x10 x11, ρ' = [some (.own 1), some (placeD more rows), some (.lst (ws.map dSrc)), some (.int c), some (.int (n : Int)), some (.int (ws.length : Int)), some (.own 4), some (.own 5), x8, x9, x10, x11, none])
      ⟨[], [], M, rfl, by rw [Nat.zero_mul]; exact Made.nil o, MadeR.nil, none, none, none, none, rfl⟩ fun k hk ρ s1 hq => ?_
    obtain ⟨ms, rs, M1, rfl, m1, m2, x8, x9, x10, x11, rfl⟩ := hq
    refine ⟨_, rfl, ?_⟩
    have hmm : ∀ M p, insO (SM t M p)[1]? = some (33, [39, 44, 45], [.int M.fst, .own 2, .own 3]) := fun _ _ => rfl
    have h4 : ∀ M as x, lstO (SM t M [.lst as, x])[4]? = some as := fun _ _ _ => rfl
    have h5 : ∀ M as x, lstO (SM t M [x, .lst as])[5]? = some as := fun _ _ _ => rfl
    have hpo := postI ht (ms := ms) (rs := rs)
    have hpo2 : ∀ z : Int, PostOk t [.lst (ms.map D.int ++ [.int z]), .lst (rs.map dSrc)] := fun z => by
      have := postI ht (ms := ms ++ [z]) (rs := rs)
      rwa [List.map_append] at this
    have b1 : M1.nodes.length < 21000 := by have := m1.cnt; omega
    have pk := mpick_ap hpo (M := M1) (by omega)
    have a3 : more[k]? = some (more.getD k 0) := some_getD (by rw [R.l1]; exact hk)
    have a4 : rows[k]? = some (rows.getD k []) := some_getR (by rw [R.l2]; exact hk)
    have ap4 := fun M v => app4 (t := t) (M := M) (as := ms.map D.int) (v := v) (x := .lst (rs.map dSrc)) (by rw [List.length_map, m1.len]; exact lt_LIM (by omega))
    have ap5 := fun M v y => app5 (t := t) (M := M) (as := rs.map dSrc) (v := v) (x := y) (by rw [List.length_map, m2.len]; exact lt_LIM (by omega))
    have mn : (if (k : Int) + 1 < (ws.length : Int) then (k : Int) + 1 else (ws.length : Int)) = ((min ws.length (k + 1) : Nat) : Int) := by split <;> omega
    have smn := smallI_len (show min ws.length (k + 1) < 100000 by omega)
    have key : ∀ src : Int, Good M src → (∀ bs, BitsOk M bs → val M bs src = if ws.length ≤ k then val M bs (more.getD (k - ws.length) 0) else 1) →
        ∃ zs M3 y10 y11, forL (gNm 10) fbP none (rngD 0 (min ws.length (k + 1))) [some (.own 1), some (placeD more rows), some (.lst (ws.map dSrc)), some (.int c), some (.int (n : Int)), some (.int (ws.length : Int)), some (.own 4), some (.own 5), some (.int (k : Int)), some (dSrc (rows.getD k [])), x10, x11, none]
            (SM t (M1.pick c src (more.getD k 0)).2 [.lst (ms.map .int ++ [.int (M1.pick c src (more.getD k 0)).1]), .lst (rs.map dSrc)]) =
              some (.nx [some (.own 1), some (placeD more rows), some (.lst (ws.map dSrc)), some (.int c), some (.int (n : Int)), some (.int (ws.length : Int)), some (.own 4), some (.own 5), some (.int (k : Int)), some (dSrc zs), y10, y11, none] (SM t M3 [.lst (ms.map .int ++ [.int (M1.pick c src (more.getD k 0)).1]), .lst (rs.map dSrc)])) ∧
          Made M M3 (ms ++ [(M1.pick c src (more.getD k 0)).1]) (k + 1) ((k + 1) * 500) (fun bs i => if val M bs c = 1 then (if ws.length ≤ i then val M bs (more.getD (i - ws.length) 0) else 1) else val M bs (more.getD i 0)) ∧
          MadeR M M3 (rs ++ [zs]) (k + 1) w (fun bs i j => orF M bs c more (rows.getD i []) ws i (min ws.length (i + 1)) j) := by
      intro src gs v1
      have gk := R.gm _ (mem_getD (l := more) (k := k) (by rw [R.l1]; exact hk))
      have r := pick_good m1.ok (gc.ext m1.ext) (gs.ext m1.ext) (gk.ext m1.ext)
      have x1 := m1.ext.trans r.ext
      have c1 := r.len
      have c2 := m1.cnt
      have R1 : RowsOk (M1.pick c src (more.getD k 0)).2 n w more rows := ⟨R.l1, R.l2, R.lw, fun a ha => (R.gm a ha).ext x1, fun r hr a ha => (R.gr r hr a ha).ext x1⟩
      obtain ⟨zs, M3, y10, y11, hf, md⟩ := inner_put (hpo2 (M1.pick c src (more.getD k 0)).1) r.ok (gc.ext x1) R1 hk (m := min ws.length (k + 1)) (ws := ws) (by omega) (by omega) hn2 hw2 lw (fun r hr a ha => (gw r hr a ha).ext x1) (by omega) (x4 := some (.int (n : Int))) (x5 := some (.int (ws.length : Int))) (x6 := some (.own 4)) (x7 := some (.own 5)) (y10 := x10) (y11 := x11)
      refine ⟨zs, M3, y10, y11, hf, ?_, ?_⟩
      · refine ((m1.snoc r.ext r.ok r.good r.len fun bs b => ?_).mono md.ext md.ok ?_)
        · rw [r.val bs (b.ext m1.ext), val_ext b m1.ext gc, val_ext b m1.ext gs, val_ext b m1.ext gk, v1 bs b]
        · have h1 := md.cnt
          have h2 : min ws.length (k + 1) * (w * 2 + 3) ≤ 10 * 23 := Nat.mul_le_mul (by omega) (by omega)
          omega
      · refine (m2.mono m1.ext r.ext).snoc x1 md fun bs b j hj => ?_
        exact orF_ext (w := w) b x1 gc R.gm (by rw [R.l1]; exact hk) (R.gr _ (mem_getR (by rw [R.l2]; exact hk)) _ (mem_getD (by rw [R.lw _ (mem_getR (by rw [R.l2]; exact hk))]; exact hj))) (fun q hq => gw _ (mem_getR hq) _ (mem_getD (by rw [lw _ (mem_getR hq)]; exact hj))) _ (by omega) (by omega)
    by_cases hr : ws.length ≤ k
    · have i1 := atI_ofInts hs (l := more) (i := (k : Int) - (ws.length : Int)) (by omega) (by rw [R.l1]; omega)
      rw [show ((k : Int) - (ws.length : Int)).toNat = k - ws.length by omega] at i1
      obtain ⟨zs, M3, y10, y11, hf, q1, q2⟩ := key (more.getD (k - ws.length) 0) (R.gm _ (mem_getD (by rw [R.l1]; omega))) (fun bs b => by rw [if_pos hr])
      simp [-List.getD_eq_getElem?_getD, -List.map_append, hp, hr, i1, atI_nat', a3, a4, hmm, pk, h4, h5, ap4, mn, smn]
      rw [hf]
      simp [-List.getD_eq_getElem?_getD, -List.map_append, ap5, h5]
      exact ⟨ms ++ [_], rs ++ [zs], M3, by rw [List.map_append, List.map_append]; rfl, q1, q2⟩
    · obtain ⟨zs, M3, y10, y11, hf, q1, q2⟩ := key 1 (good_1 o) (fun bs b => by rw [if_neg hr]; exact val_1 b o)
      simp [-List.getD_eq_getElem?_getD, -List.map_append, hp, hr, atI_nat', a3, a4, hmm, pk, h4, h5, ap4, mn, smn]
      rw [hf]
      simp [-List.getD_eq_getElem?_getD, -List.map_append, ap5, h5]
      exact ⟨ms ++ [_], rs ++ [zs], M3, by rw [List.map_append, List.map_append]; rfl, q1, q2⟩
  have hlow := SM_low (M := M') (postI ht (ms := ms) (rs := rs))
  have pm := place_make hlow (x := .own 4) (y := .own 5) (more := ms) (rows := rs) rfl rfl
  have hf : fin false 4 (placeD ms rs) (SM t M' [.lst (ms.map .int), .lst (rs.map dSrc)]) = some (.ok (placeD ms rs) (SM t M' [])) := fin_app (s := SM t M' []) (SM_low h0) (low_placeD _ _ _)
  simp [pm, hf]
  exact ⟨ms, rs, M', ⟨rfl, rfl⟩, m1, m2⟩
end LW
set_option Elab.async false
set_option maxRecDepth 100000
set_option maxHeartbeats 4000000
set_option linter.all false
set_option autoImplicit false
namespace LW
open PySem L2 VM
theorem srcs_in {s : Sto} {x0 x1 x2 : Option D} : ∀ {r : List Int} {acc : List D}, acc.length + r.length < 5000 → clL (gNm 2) (VM.ret true) (lcB (fVar 2)) none [x0, x1, x2] (r.map D.int) acc s = some (acc ++ r.map D.int, s)
  | [], acc, _ => by rw [List.map_nil, clL_nil, chk_none, if_pos rfl, List.append_nil]
  | a :: r, acc, h => by
    have hl : acc.length < LIM := lt_LIM (by simp at h; omega)
    have ih := srcs_in (s := s) (x0 := x0) (x1 := x1) (x2 := x2) (r := r) (acc := acc ++ [D.int a]) (by simp at h ⊢; omega)
    rw [List.map_cons, clL_cons, chk_none, if_pos rfl]
    simp [lcB_ap, hl, ih]
theorem srcs_out {s : Sto} {x0 x1 x2 : Option D} : ∀ {rows : List (List Int)} {acc : List D}, acc.length + rows.flatten.length < 5000 → (∀ r ∈ rows, r.length < 1000) → clL (gNm 1) (VM.ret true) (cl1 (fSrc (fVar 1)) (gNm 2) (VM.ret true) (lcB (fVar 2)) [2]) none [x0, x1, x2] (rows.map dSrc) acc s = some (acc ++ rows.flatten.map D.int, s)
  | [], acc, _, _ => by simp [clL_nil, chk_none]
  | r :: rows, acc, h, h2 => by
    simp at h
    have hl : r.length ≤ LIM := Nat.le_of_lt (lt_LIM (by have := h2 r (by simp); omega))
    have hi := srcs_in (s := s) (x0 := x0) (x1 := some (dSrc r)) (x2 := none) (r := r) (acc := acc) (by omega)
    have ih := srcs_out (s := s) (x0 := x0) (x1 := x1) (x2 := x2) (rows := rows) (acc := acc ++ r.map D.int) (by simp; omega) (fun q hq => h2 q (List.mem_cons_of_mem _ hq))
    rw [List.map_cons, clL_cons, chk_none, if_pos rfl]
    unfold dSrc at hi
    simp [cl1_ap, dSrc, hl, hi]
    rw [ih]
    simp
theorem sources_ap {s : Sto} (hs : Low s) {more : List Int} {rows : List (List Int)} (h1 : more.length ≤ 100) (h2 : rows.length ≤ 100) (h3 : rows.flatten.length ≤ 1000) (h4 : ∀ r ∈ rows, r.length < 1000) : m_queue_sources s [placeD more rows] = some (.ok (.lst ((more ++ rows.flatten).map .int)) s) := by
  have hp : ∀ s, insD s (placeD more rows) = some (38, [53, 54], [.tup (more.map .int), .tup (rows.map dSrc)]) := fun _ => rfl
  have l1 : rows.length ≤ LIM := Nat.le_of_lt (lt_LIM (by omega))
  have so := srcs_out (s := s) (x0 := some (placeD more rows)) (x1 := none) (x2 := none) (rows := rows) (acc := []) (by simp at h3 ⊢; omega) h4
  have l2 : more.length + rows.flatten.length ≤ LIM := Nat.le_of_lt (lt_LIM (by omega))
  have lw := lows_mapT (n := s.length) (G := D.int) (fun _ => rfl) (more ++ rows.flatten)
  have hf : fin false s.length (.lst ((more ++ rows.flatten).map D.int)) s = some (.ok (.lst ((more ++ rows.flatten).map D.int)) s) := fin_low hs (by rw [low]; exact lw)
  simp [-List.map_flatten, m_queue_sources, VM.run, g_queue_sources, startD, hp, fLc2_ap, l1]
  rw [so]
  rw [List.map_append] at hf
  simp only [List.length_flatten] at l2
  simp [-List.map_flatten, l2, hf]
end LW
set_option Elab.async false
set_option maxRecDepth 100000
set_option maxHeartbeats 4000000
set_option linter.all false
set_option autoImplicit false
namespace LW
open PySem L2 VM
/-! ### the tape -/
/-- what is read of the script: its place, the wide number, the seed -/
structure Tau where
  ns : List Int
  p : Int
  r : Int
  z : Int
  hp : 0 ≤ p
  hr : 0 ≤ r
  hz : 0 ≤ z
  hz2 : z ≤ 2147483647
def tp (τ : Tau) : SO := .lst [.lck (τ.ns.map D.int), .int τ.p, .int τ.r, .int τ.z]
@[simp] theorem lowS_tp (n : Nat) (τ : Tau) : lowS n (tp τ) = true := by
  simp only [tp, lowS, lows, low, lows_int, Bool.and_self]
theorem atI_ints {ns : List Int} {p : Int} (h0 : 0 ≤ p) (h : p < ns.length) : ∃ c, atI (ns.map D.int) p = some (.int c) := by
  refine ⟨ns[p.toNat]'(by omega), ?_⟩
  rw [atI_pos _ h0, List.getElem?_map, List.getElem?_eq_getElem (by omega)]
  rfl
theorem mulI_of {i j : Int} (h : mulOk i j = true) : mulI i j = some (.int (i * j)) := if_pos h
theorem fin_of {s : Sto} {i : Int} {kp : Bool} {n : Nat} (hn : n = s.length) (hs : Low s) : fin kp n (.int i) s = some (.ok (.int i) s) := by
  subst hn
  exact fin_low hs rfl
theorem pick_ok (τ : Tau) (many : Int) (h1 : 0 < many) (h2 : many < 1073741824) :
    ∃ (d : Int) (τ' : Tau), (∀ s : Sto, s.all (lowS (s.length + 1)) = true → m__law_pick (tp τ :: s) [.own 0, .int many] = some (.ok (.int d) (tp τ' :: s))) ∧ 0 ≤ d ∧ d < many := by
  have hL : ∀ (s : Sto) τ', s.all (lowS (s.length + 1)) = true → Low (tp τ' :: s) := fun s τ' hs => by
    unfold Low
    simp only [List.all_cons, lowS_tp, Bool.true_and, List.length_cons]
    exact hs
  have hm : many ≠ 0 := by omega
  have hd : dvOk many = true := (dvOk_iff _).mpr ⟨h1, h2⟩
  obtain ⟨ns, p, r, z, hp, hr, hz, hz2⟩ := τ
  have hz3 : 0 ≤ z * 48271 % 2147483647 := Int.emod_nonneg _ (by decide)
  have hz4 : z * 48271 % 2147483647 < 2147483647 := Int.emod_lt_of_pos _ (by decide)
  have m2 : ∀ z : Int, mulI (z * 48271 % 2147483647) (z * 48271 % 2147483647) = some (.int ((z * 48271 % 2147483647) * (z * 48271 % 2147483647))) := fun z => mulI_of ((mulOk_iff _ _).mpr (.inl (by have := Int.emod_nonneg (z * 48271) (show (2147483647 : Int) ≠ 0 by decide); have := Int.emod_lt_of_pos (z * 48271) (show (0 : Int) < 2147483647 by decide); omega)))
  have m1' : ∀ z : Int, mulI z 48271 = some (.int (z * 48271)) := fun z => mulI_of (by simp)
  have fin' : ∀ (i : Int) (τ' : Tau) (s : Sto), s.all (lowS (s.length + 1)) = true → fin false (s.length + 1) (.int i) (.lst [.lck (τ'.ns.map D.int), .int τ'.p, .int τ'.r, .int τ'.z] :: s) = some (.ok (.int i) (tp τ' :: s)) := fun i τ' s hs => fin_of (s := tp τ' :: s) rfl (hL s τ' hs)
  by_cases h : r = 0
  · by_cases hl : p < ns.length
    · obtain ⟨c, hc⟩ := atI_ints hp hl
      have hc0 : 0 ≤ (if c < 0 then -c else c) := by split <;> omega
      by_cases hb : 1000000000000000000 ≤ (if c < 0 then -c else c)
      · have h0 : 0 < (if c < 0 then -c else c) := by omega
        let τ' : Tau := ⟨ns, p + 1, (if c < 0 then -c else c) / many, z, by omega, Int.ediv_nonneg hc0 (by omega), hz, hz2⟩
        refine ⟨(if c < 0 then -c else c) % many, τ', fun s hs => ?_, Int.emod_nonneg _ hm, Int.emod_lt_of_pos _ h1⟩
        rw [← fin' _ τ' s hs]
        simp [m__law_pick, VM.run, g__law_pick, startD, tp, h, powI, modI, fdivI, hl, hc, hb, h1, hd, putD_own, h0, τ']
      · have e0 := Int.emod_nonneg (z * 48271 + (if c < 0 then -c else c)) (show (2147483646 : Int) ≠ 0 by decide)
        let τ' : Tau := ⟨ns, p + 1, 0, ((z * 48271 + (if c < 0 then -c else c)) % 2147483646 + 1) * 48271 % 2147483647, by omega, by decide, Int.emod_nonneg _ (by decide), by have := Int.emod_lt_of_pos (((z * 48271 + (if c < 0 then -c else c)) % 2147483646 + 1) * 48271) (show (0 : Int) < 2147483647 by decide); omega⟩
        refine ⟨(τ'.z / 5 + τ'.z * τ'.z % 2147483629) % many, τ', fun s hs => ?_, Int.emod_nonneg _ hm, Int.emod_lt_of_pos _ h1⟩
        rw [← fin' _ τ' s hs]
        simp [m__law_pick, VM.run, g__law_pick, startD, tp, h, powI, modI, fdivI, hl, hc, hb, h1, hd, putD_own, m1', m2, τ']
    · let τ' : Tau := ⟨ns, p, 0, z * 48271 % 2147483647, hp, by decide, hz3, by omega⟩
      refine ⟨(τ'.z / 5 + τ'.z * τ'.z % 2147483629) % many, τ', fun s hs => ?_, Int.emod_nonneg _ hm, Int.emod_lt_of_pos _ h1⟩
      rw [← fin' _ τ' s hs]
      simp [m__law_pick, VM.run, g__law_pick, startD, tp, h, powI, modI, fdivI, hl, h1, hd, putD_own, m1', m2, τ']
  · have h0 : 0 < r := by omega
    let τ' : Tau := ⟨ns, p, r / many, z, hp, Int.ediv_nonneg hr (by omega), hz, hz2⟩
    refine ⟨r % many, τ', fun s hs => ?_, Int.emod_nonneg _ hm, Int.emod_lt_of_pos _ h1⟩
    rw [← fin' _ τ' s hs]
    simp [m__law_pick, VM.run, g__law_pick, startD, tp, h, powI, modI, fdivI, h1, hd, putD_own, h0, τ']
/-- what is drawn below a limit; the tape behind -/
noncomputable def dr (τ : Tau) (many : Int) : Int := if h : 0 < many ∧ many < 1073741824 then Classical.choose (pick_ok τ many h.1 h.2) else 0
noncomputable def nx (τ : Tau) (many : Int) : Tau := if h : 0 < many ∧ many < 1073741824 then Classical.choose (Classical.choose_spec (pick_ok τ many h.1 h.2)) else τ
theorem dr_lo (τ : Tau) (many : Int) : 0 ≤ dr τ many := by
  unfold dr
  split
  · rename_i h
    exact (Classical.choose_spec (Classical.choose_spec (pick_ok τ many h.1 h.2))).2.1
  · exact Int.le_refl _
theorem dr_hi (τ : Tau) {many : Int} (h1 : 0 < many) : dr τ many < many := by
  unfold dr
  split
  · rename_i h
    exact (Classical.choose_spec (Classical.choose_spec (pick_ok τ many h.1 h.2))).2.2
  · exact h1
theorem pick_ap {τ : Tau} {s : Sto} {many : Int} (h1 : 0 < many) (h2 : many < 1073741824) (hs : s.all (lowS (s.length + 1)) = true) :
    m__law_pick (tp τ :: s) [.own 0, .int many] = some (.ok (.int (dr τ many)) (tp (nx τ many) :: s)) := by
  unfold dr nx
  rw [dif_pos ⟨h1, h2⟩, dif_pos ⟨h1, h2⟩]
  exact (Classical.choose_spec (Classical.choose_spec (pick_ok τ many h1 h2))).1 s hs
/-! ### queues as bits -/
def qmore (ws : List Int) (k : Nat) : Int := if k < ws.length then 1 else 0
def qbit (ws : List Int) (k j : Nat) : Int := ws.getD k 0 / 2 ^ j % 2
def rowsQ (ws : List Int) (w : Nat) : Nat → List Int
  | 0 => []
  | n + 1 => rowsQ ws w n ++ (List.range w).map (qbit ws n)
def tb (ws : List Int) (n w : Nat) : List Int := (List.range n).map (qmore ws) ++ rowsQ ws w n
theorem rowsQ_len (ws : List Int) (w : Nat) : ∀ n, (rowsQ ws w n).length = n * w
  | 0 => by simp [rowsQ]
  | n + 1 => by rw [rowsQ, List.length_append, rowsQ_len ws w n, List.length_map, List.length_range, Nat.succ_mul]
theorem tb_len (ws : List Int) (n w : Nat) : (tb ws n w).length = n + n * w := by simp [tb, rowsQ_len]
theorem rowsQ_get (ws : List Int) (w : Nat) {j : Nat} (hj : j < w) : ∀ {n k : Nat}, k < n → (rowsQ ws w n).getD (k * w + j) 0 = qbit ws k j
  | n + 1, k, h => by
    rw [rowsQ]
    by_cases hk : k < n
    · have : k * w + j < (rowsQ ws w n).length := by
        rw [rowsQ_len]
        have : (k + 1) * w ≤ n * w := Nat.mul_le_mul_right w hk
        rw [Nat.succ_mul] at this
        omega
      rw [List.getD_eq_getElem?_getD, List.getElem?_append_left this, ← List.getD_eq_getElem?_getD]
      exact rowsQ_get ws w hj hk
    · have e : k = n := by omega
      subst e
      rw [List.getD_eq_getElem?_getD, List.getElem?_append_right (by rw [rowsQ_len]; omega), rowsQ_len, show k * w + j - k * w = j by omega, List.getElem?_map, List.getElem?_range hj]
      rfl
theorem tb_row (ws : List Int) {n w k j : Nat} (hk : k < n) (hj : j < w) : (tb ws n w).getD (n + k * w + j) 0 = qbit ws k j := by
  unfold tb
  rw [List.getD_eq_getElem?_getD, List.getElem?_append_right (by simp; omega), ← List.getD_eq_getElem?_getD, show n + k * w + j - ((List.range n).map (qmore ws)).length = k * w + j by simp; omega]
  exact rowsQ_get ws w hj hk
theorem tb_more (ws : List Int) {n w k : Nat} (hk : k < n) : (tb ws n w).getD k 0 = qmore ws k := by
  unfold tb
  rw [List.getD_eq_getElem?_getD, List.getElem?_append_left (by simp; omega), List.getElem?_map, List.getElem?_range hk]
  rfl
theorem tb_take (ws : List Int) (n w : Nat) : (tb ws n w).take n = (List.range n).map (qmore ws) := by
  unfold tb
  exact List.take_left' (by simp)
theorem sum_qmore (ws : List Int) : ∀ n, ((List.range n).map (qmore ws)).sum = (min n ws.length : Nat)
  | 0 => by simp
  | n + 1 => by
    rw [List.range_succ, List.map_append, List.sum_append, sum_qmore ws n]
    simp [qmore]
    split <;> omega
/-- the words of bits -/
def wsum (bs : List Int) (at_ : Nat) : Nat → Int
  | 0 => 0
  | w + 1 => wsum bs at_ w + bs.getD (at_ + w) 0 * 2 ^ w
def wds (bs : List Int) (n w m : Nat) : List Int := (List.range m).map fun k => wsum bs (n + k * w) w
theorem wds_len (bs : List Int) (n w m : Nat) : (wds bs n w m).length = m := by simp [wds]
theorem wds_take (bs : List Int) (n w : Nat) {m l : Nat} (h : l ≤ m) : (wds bs n w m).take l = wds bs n w l := by
  unfold wds
  rw [← List.map_take, List.take_range, Nat.min_eq_left h]
theorem wsum_eq (x : Int) {bs : List Int} {a : Nat} : ∀ {w : Nat}, (∀ j, j < w → bs.getD (a + j) 0 = x / 2 ^ j % 2) → wsum bs a w = x % 2 ^ w
  | 0, _ => by simp [wsum, Int.emod_one]
  | w + 1, h => by
    rw [wsum, wsum_eq x (fun j hj => h j (by omega)), h w (by omega)]
    have hp : (0 : Int) < 2 ^ w := Int.pow_pos (by decide)
    have e1 := Int.mul_ediv_add_emod x (2 ^ w)
    have e2 := Int.mul_ediv_add_emod (x / 2 ^ w) 2
    have e3 : x / 2 ^ (w + 1) = x / 2 ^ w / 2 := by rw [Int.pow_succ, Int.ediv_ediv_of_nonneg (by omega)]
    have e4 := Int.mul_ediv_add_emod x (2 ^ (w + 1))
    rw [e3] at e4
    generalize x / 2 ^ w = q at *
    generalize hr : x % 2 ^ w = r at *
    generalize q / 2 = q2 at *
    generalize q % 2 = b at *
    rw [Int.pow_succ] at e4 ⊢
    subst e2
    have : (2 : Int) ^ w * (2 * q2 + b) = 2 ^ w * 2 * q2 + b * 2 ^ w := by rw [Int.mul_add, Int.mul_assoc, Int.mul_comm b]
    omega
theorem wds_tb {ws : List Int} {n w : Nat} (hl : ws.length ≤ n) (hb : ∀ x ∈ ws, 0 ≤ x ∧ x < 2 ^ w) : wds (tb ws n w) n w ws.length = ws := by
  refine List.ext_getElem (wds_len _ _ _ _) fun k h1 h2 => ?_
  have e : wsum (tb ws n w) (n + k * w) w = ws[k] % 2 ^ w := wsum_eq ws[k] fun j hj => by
    rw [tb_row ws (by omega) hj, qbit, List.getD_eq_getElem?_getD, List.getElem?_eq_getElem h2]
    rfl
  have h3 := hb _ (List.getElem_mem h2)
  simp only [wds, List.getElem_map, List.getElem_range]
  rw [e, Int.emod_eq_of_lt h3.1 h3.2]
/-- bits of a queue come from one length alone -/
theorem tb_size {bs ws : List Int} {n w : Nat} (hl : ws.length ≤ n) (h : tb ws n w = bs) : (bs.take n).sum = (ws.length : Int) := by
  rw [← h, tb_take, sum_qmore]
  omega
theorem sum_bits01 : ∀ {l : List Int}, (∀ a ∈ l, a = 0 ∨ a = 1) → 0 ≤ l.sum ∧ l.sum ≤ (l.length : Int)
  | [], _ => by simp
  | a :: l, h => by
    have ih := sum_bits01 (l := l) fun b hb => h b (List.mem_cons_of_mem _ hb)
    have ha := h a List.mem_cons_self
    simp only [List.sum_cons, List.length_cons]
    omega
theorem rowsQ_bit (ws : List Int) (w : Nat) : ∀ n, ∀ a ∈ rowsQ ws w n, a = 0 ∨ a = 1 := fun n => by
  induction n with
  | zero => intro a h; exact nomatch h
  | succ n ih =>
    intro a h
    rw [rowsQ] at h
    rcases List.mem_append.mp h with h | h
    · exact ih a h
    · obtain ⟨j, _, rfl⟩ := List.mem_map.mp h
      unfold qbit
      omega
theorem tb_bit (ws : List Int) (n w : Nat) : ∀ a ∈ tb ws n w, a = 0 ∨ a = 1 := by
  intro a ha
  unfold tb at ha
  rcases List.mem_append.mp ha with h | h
  · obtain ⟨k, _, rfl⟩ := List.mem_map.mp h
    unfold qmore
    split
    · exact .inr rfl
    · exact .inl rfl
  · exact rowsQ_bit ws w n a h
/-! ### what a place tells of a queue -/
structure Tells (M : Mkr) (bs : List Int) (more : List Int) (rows : List (List Int)) (n w : Nat) (ws : List Int) : Prop where
  m : ∀ k, k < n → val M bs (more.getD k 0) = qmore ws k
  r : ∀ k, k < n → ∀ j, j < w → val M bs ((rows.getD k []).getD j 0) = qbit ws k j
theorem qmore_drop {ws : List Int} {n i r : Nat} (h : ws.length ≤ n) : (if i + r < n then qmore ws (i + r) else 0) = qmore (ws.drop r) i := by
  unfold qmore
  rw [List.length_drop]
  by_cases h1 : i + r < n
  · rw [if_pos h1]
    by_cases h2 : i + r < ws.length
    · rw [if_pos h2, if_pos (by omega)]
    · rw [if_neg h2, if_neg (by omega)]
  · rw [if_neg h1, if_neg (by omega)]
theorem qbit_drop {ws : List Int} {n i j r : Nat} (h : ws.length ≤ n) : (if i + r < n then qbit ws (i + r) j else 0) = qbit (ws.drop r) i j := by
  unfold qbit
  rw [List.getD_eq_getElem?_getD, List.getD_eq_getElem?_getD, List.getElem?_drop, Nat.add_comm r i]
  split
  · rfl
  · rw [List.getElem?_eq_none (by omega)]
    simp
theorem qbit_out {ws : List Int} {i j : Nat} (h : ws.length ≤ i) : qbit ws i j = 0 := by
  unfold qbit
  rw [List.getD_eq_getElem?_getD, List.getElem?_eq_none h]
  simp
theorem qbit_app {ws us : List Int} {i j : Nat} : qbit (ws ++ us) i j = if i < ws.length then qbit ws i j else qbit us (i - ws.length) j := by
  unfold qbit
  split
  · rw [List.getD_eq_getElem?_getD, List.getD_eq_getElem?_getD, List.getElem?_append_left (by assumption)]
  · rw [List.getD_eq_getElem?_getD, List.getD_eq_getElem?_getD, List.getElem?_append_right (by omega)]
theorem lenV_eq {M : Mkr} {bs more : List Int} {rows : List (List Int)} {n w k : Nat} {ws : List Int} (T : Tells M bs more rows n w ws) (hk : k < n) : lenV M bs more k = if ws.length = k then 1 else 0 := by
  unfold lenV
  rw [T.m k hk]
  by_cases h0 : k = 0
  · subst h0
    unfold qmore
    rw [if_pos rfl]
    by_cases h : ws.length = 0
    · rw [if_pos h, if_neg (by omega)]; rfl
    · rw [if_neg h, if_pos (by omega)]; rfl
  · rw [if_neg h0, T.m (k - 1) (by omega)]
    unfold qmore
    by_cases h : ws.length = k
    · rw [if_pos h, if_pos (by omega), if_neg (by omega)]; rfl
    · rw [if_neg h]
      by_cases h2 : k < ws.length
      · rw [if_pos h2]; simp
      · rw [if_neg (show ¬ k - 1 < ws.length by omega)]; simp
theorem orF_eq {M : Mkr} {bs more : List Int} {rows us : List (List Int)} {n w k i : Nat} {ws new : List Int} {c p : Int} (T : Tells M bs more rows n w ws) (hk : k < n) (hi : i < w) (hp : p = 0 ∨ p = 1) (hc : val M bs c = p)
    (hu : ∀ j, j < us.length → val M bs ((us.getD j []).getD i 0) = qbit new j i) : ∀ {m : Nat}, m ≤ us.length → m ≤ k + 1 →
    orF M bs c more (rows.getD k []) us k m i = if p = 1 ∧ ws.length ≤ k ∧ k < ws.length + m then qbit new (k - ws.length) i else qbit ws k i
  | 0, _, _ => by
    rw [orF, T.r k hk i hi, if_neg (by omega)]
  | m + 1, h1, h2 => by
    rw [orF, orF_eq T hk hi hp hc hu (m := m) (by omega) (by omega), lenV_eq T (by omega), hc, hu m (by omega)]
    by_cases e : ws.length = k - m
    · rw [if_pos e, if_neg (show ¬ (p = 1 ∧ ws.length ≤ k ∧ k < ws.length + m) by omega), qbit_out (show ws.length ≤ k by omega)]
      rcases hp with rfl | rfl
      · rw [if_neg (by omega)]; simp
      · rw [if_pos (by omega), show k - ws.length = m by omega]; simp
    · rw [if_neg e]
      have : (p = 1 ∧ ws.length ≤ k ∧ k < ws.length + (m + 1)) ↔ (p = 1 ∧ ws.length ≤ k ∧ k < ws.length + m) := by
        constructor
        · rintro ⟨a, b, c⟩; exact ⟨a, b, by omega⟩
        · rintro ⟨a, b, c⟩; exact ⟨a, b, by omega⟩
      simp only [this]
      simp
/-- a queue behind words taken -/
def takenQ (ws : List Int) (t : Int) (r : Nat) : List Int := if t = 1 then ws.drop r else ws
/-- a queue behind words put -/
def putQ (ws : List Int) (p : Int) (new : List Int) : List Int := if p = 1 then ws ++ new else ws
theorem taken_tells {M M' : Mkr} {bs more ms : List Int} {rows rs : List (List Int)} {n w rate k : Nat} {ws : List Int} {c t : Int} (b : BitsOk M bs) (T : Tells M bs more rows n w ws) (hl : ws.length ≤ n) (hc : val M bs c = t) (ht : t = 0 ∨ t = 1)
    (md : Made M M' ms n k (fun bs i => if val M bs c = 1 then (if i + rate < n then val M bs (more.getD (i + rate) 0) else 0) else val M bs (more.getD i 0)))
    (mr : MadeR M M' rs n w (fun bs i j => if val M bs c = 1 then (if i + rate < n then val M bs ((rows.getD (i + rate) []).getD j 0) else 0) else val M bs ((rows.getD i []).getD j 0))) :
    Tells M' bs ms rs n w (takenQ ws t rate) := by
  refine ⟨fun i hi => ?_, fun i hi j hj => ?_⟩
  · rw [md.vl bs b i hi]
    rw [hc]
    unfold takenQ
    rcases ht with rfl | rfl
    · rw [if_neg (by decide), if_neg (by decide), T.m i hi]
    · rw [if_pos rfl, if_pos rfl, ← qmore_drop hl]
      split
      · rw [T.m _ (by assumption)]
      · rfl
  · rw [mr.vl bs b i hi j hj]
    rw [hc]
    unfold takenQ
    rcases ht with rfl | rfl
    · rw [if_neg (by decide), if_neg (by decide), T.r i hi j hj]
    · rw [if_pos rfl, if_pos rfl, ← qbit_drop hl]
      split
      · rw [T.r _ (by assumption) j hj]
      · rfl
theorem put_tells {M M' : Mkr} {bs more ms : List Int} {rows rs us : List (List Int)} {n w k : Nat} {ws new : List Int} {c p : Int} (b : BitsOk M bs) (T : Tells M bs more rows n w ws) (hl : p = 1 → ws.length + us.length ≤ n) (hc : val M bs c = p) (hp : p = 0 ∨ p = 1)
    (hn : new.length = us.length) (hu : ∀ j, j < us.length → ∀ i, i < w → val M bs ((us.getD j []).getD i 0) = qbit new j i)
    (md : Made M M' ms n k (fun bs i => if val M bs c = 1 then (if us.length ≤ i then val M bs (more.getD (i - us.length) 0) else 1) else val M bs (more.getD i 0)))
    (mr : MadeR M M' rs n w (fun bs i j => orF M bs c more (rows.getD i []) us i (min us.length (i + 1)) j)) :
    Tells M' bs ms rs n w (putQ ws p new) := by
  refine ⟨fun i hi => ?_, fun i hi j hj => ?_⟩
  · rw [md.vl bs b i hi]
    rw [hc]
    unfold putQ
    rcases hp with rfl | rfl
    · rw [if_neg (by decide), if_neg (by decide), T.m i hi]
    · rw [if_pos rfl, if_pos rfl]
      have e : qmore (ws ++ new) i = if i < ws.length + us.length then 1 else 0 := by rw [qmore, List.length_append, hn]
      rw [e]
      split
      · rw [T.m _ (by omega), qmore]
        split <;> split <;> first | rfl | omega
      · rw [if_pos (by omega)]
  · rw [mr.vl bs b i hi j hj]
    rw [orF_eq T hi hj hp hc (fun q hq => hu q hq j hj) (by omega) (by omega)]
    unfold putQ
    rcases hp with rfl | rfl
    · rw [if_neg (by omega), if_neg (by decide)]
    · rw [if_pos rfl, qbit_app]
      by_cases h1 : i < ws.length
      · rw [if_pos h1, if_neg (by omega)]
      · rw [if_neg h1]
        by_cases h2 : i < ws.length + us.length
        · rw [if_pos (by omega)]
        · rw [if_neg (by omega), qbit_out (by omega), qbit_out (by omega)]
theorem tells_flat {M : Mkr} {bs more : List Int} {rows : List (List Int)} {n w : Nat} {ws : List Int} (T : Tells M bs more rows n w ws) (h1 : rows.length = n) (h2 : ∀ r ∈ rows, r.length = w) : rows.flatten.map (val M bs) = rowsQ ws w n := by
  have : ∀ m, m ≤ n → (rows.take m).flatten.map (val M bs) = rowsQ ws w m := fun m => by
    induction m with
    | zero => intro _; rfl
    | succ m ih =>
      intro hm
      have hl : m < rows.length := by omega
      rw [List.take_succ_eq_append_getElem hl, List.flatten_append, List.map_append, ih (by omega), rowsQ]
      congr 1
      have h3 := h2 _ (List.getElem_mem hl)
      simp only [List.flatten_cons, List.flatten_nil, List.append_nil]
      refine List.ext_getElem (by simp [h3]) fun j q1 q2 => ?_
      have q3 := T.r m (by omega) j (by simpa using q2)
      rw [List.getD_eq_getElem?_getD (l := rows), List.getElem?_eq_getElem hl] at q3
      simp only [Option.getD_some] at q3
      rw [List.getD_eq_getElem?_getD, List.getElem?_eq_getElem (by simpa using q1)] at q3
      simpa using q3
  have := this n (Nat.le_refl _)
  rwa [List.take_of_length_le (by omega)] at this
theorem tells_tb {M : Mkr} {bs more : List Int} {rows : List (List Int)} {n w : Nat} {ws : List Int} (T : Tells M bs more rows n w ws) (h0 : more.length = n) (h1 : rows.length = n) (h2 : ∀ r ∈ rows, r.length = w) : (more ++ rows.flatten).map (val M bs) = tb ws n w := by
  rw [List.map_append, tells_flat T h1 h2, tb]
  congr 1
  refine List.ext_getElem (by simp [h0]) fun j q1 q2 => ?_
  have q3 := T.m j (by simpa using q2)
  rw [List.getD_eq_getElem?_getD, List.getElem?_eq_getElem (by simpa using q1)] at q3
  simpa using q3
end LW
set_option Elab.async false
set_option maxRecDepth 100000
set_option maxHeartbeats 4000000
set_option linter.all false
set_option autoImplicit false
namespace LW
open PySem L2 VM
/-! ### the law's bits of a queue, and the program's -/
theorem getPad {ws : List Int} {n k : Nat} (hk : k < n) : (ws.map D.int ++ List.replicate n (D.int 0))[k]? = some (.int (ws.getD k 0)) := by
  rw [List.getD_eq_getElem?_getD]
  by_cases h : k < ws.length
  · rw [List.getElem?_append_left (by simpa using h), List.getElem?_map, List.getElem?_eq_getElem h]
    rfl
  · rw [List.getElem?_append_right (by simpa using h), List.getElem?_replicate, if_pos (by simp; omega), List.getElem?_eq_none (l := ws) (by omega)]
    rfl
section
variable {s : Sto} (hs : Low s) {ws : List Int} {n w : Nat} (hn : n ≤ 10) (hw : w ≤ 10) (hl : ws.length ≤ 10)
include hs hn hw hl
theorem ltold_ap {x : D} (h1 : lenD s x = some (.int ws.length)) (h2 : listD s x = some (.lst (ws.map .int))) :
    m__law_told s [x, .int n, .int w] = some (.ok (.tup ((tb ws n w).map .int)) s) := by
  have sn := smallI_len (show n < 100000 by omega)
  have sw := smallI_len (show w < 100000 by omega)
  have ln : n ≤ LIM := le_LIM (by omega)
  have lw : w ≤ LIM := le_LIM (by omega)
  simp [m__law_told, VM.run, g__law_told, startD, sn, fLc_ap, ln, h1]
  rw [lcL_rng (F := fun k => .int (qmore ws k))]
  rotate_left
  · intro k hk
    exact ⟨_, rfl, rfl, by simp [h1, qmore]⟩
  simp [sn]
  generalize hX : forL _ _ _ _ _ _ = X
  obtain ⟨ρ', s', rfl, rfl, y, z, rfl⟩ : ∃ ρ' s', X = some (.nx ρ' s') ∧ s = s' ∧ ∃ y z, ρ' = [some x, some (.int n), some (.int w), some (.lst ((((List.range n).map (qmore ws)) ++ rowsQ ws w n).map .int)), y, z, none] := by
    subst hX
    refine forL_rngP (P := fun k ρ' s' => s = s' ∧ ∃ y z, ρ' = [some x, some (.int n), some (.int w), some (.lst ((((List.range n).map (qmore ws)) ++ rowsQ ws w k).map .int)), y, z, none]) ⟨rfl, none, none, by simp [rowsQ]⟩ fun k hk ρ s' hp => ?_
    obtain ⟨rfl, y, z, rfl⟩ := hp
    refine ⟨_, rfl, ?_⟩
    have e := getPad (ws := ws) hk
    have l1 : ws.length + n ≤ LIM := le_LIM (by omega)
    have l2 : n + (rowsQ ws w k).length + w ≤ LIM := le_LIM (by
      rw [rowsQ_len]
      have : k * w ≤ 10 * 10 := Nat.mul_le_mul (by omega) hw
      omega)
    simp [-List.getD_eq_getElem?_getD, -List.map_append, h2, sn, ln, l1, atI_nat', e, fLc_ap, sw, lw]
    rw [lcL_rng (F := fun j => .int (qbit ws k j))]
    rotate_left
    · intro j hj
      exact ⟨_, rfl, rfl, by simp [-List.getD_eq_getElem?_getD, PyProof.Rows.bitAnd_m1, qbit]⟩
    simp [l2, rowsQ]
  have hf : fin false s.length (.tup ((tb ws n w).map D.int)) s = some (.ok (.tup ((tb ws n w).map .int)) s) := fin_low hs (by rw [low]; exact lows_int _ _)
  simpa [tb] using hf
theorem qbits_ap {x : D} (h1 : lenD s x = some (.int ws.length)) (h2 : ∀ s2 k, k < ws.length → ixD (s ++ s2) x (.int (k : Int)) = some (.int (ws.getD k 0))) (h3 : ∀ s2, lenD (s ++ s2) x = some (.int ws.length)) :
    m_queue_bits s [x, .int n, .int w] = some (.ok (.tup ((tb ws n w).map .int)) s) := by
  have sn := smallI_len (show n < 100000 by omega)
  have sw := smallI_len (show w < 100000 by omega)
  have ln : n ≤ LIM := le_LIM (by omega)
  have lw : w ≤ LIM := le_LIM (by omega)
  simp [m_queue_bits, VM.run, g_queue_bits, startD, sn, fLcO_ap, ln, h1]
  rw [lcL_rng (F := fun k => .int (qmore ws k))]
  rotate_left
  · intro k hk
    exact ⟨_, rfl, rfl, by simp [h1, qmore]⟩
  simp [sn]
  generalize hX : forL _ _ _ _ _ _ = X
  obtain ⟨ρ', s', rfl, rfl, y, z, rfl⟩ : ∃ ρ' s', X = some (.nx ρ' s') ∧ s' = s ++ [.lst ((((List.range n).map (qmore ws)) ++ rowsQ ws w n).map .int)] ∧ ∃ y z, ρ' = [some x, some (.int n), some (.int w), some (.own s.length), y, z, none] := by
    subst hX
    refine forL_rngP (P := fun k ρ' s' => s' = s ++ [.lst ((((List.range n).map (qmore ws)) ++ rowsQ ws w k).map .int)] ∧ ∃ y z, ρ' = [some x, some (.int n), some (.int w), some (.own s.length), y, z, none]) ⟨?_, none, none, rfl⟩ fun k hk ρ s' hp => ?_
    · simp [rowsQ]
    obtain ⟨rfl, y, z, rfl⟩ := hp
    refine ⟨_, rfl, ?_⟩
    have l2 : n + (rowsQ ws w k).length + w < LIM := lt_LIM (by
      rw [rowsQ_len]
      have : k * w ≤ 10 * 10 := Nat.mul_le_mul (by omega) hw
      omega)
    have la : ∀ ds : List D, lstAt (s ++ [.lst ds]) s.length = some ds := fun ds => by simp [lstAt]
    by_cases hk2 : k < ws.length
    · have e := h2 [.lst ((((List.range n).map (qmore ws)) ++ rowsQ ws w k).map .int)] k hk2
      simp [-List.getD_eq_getElem?_getD, -List.map_append, h3, hk2, e, la, fLc_ap, sw, lw]
      rw [lcL_rng (F := fun j => .int (qbit ws k j))]
      rotate_left
      · intro j hj
        exact ⟨_, rfl, rfl, by simp [-List.getD_eq_getElem?_getD, PyProof.Rows.bitAnd_m1, qbit]⟩
      simp [la, l2, rowsQ]
    · have e : ws.getD k 0 = 0 := by
        rw [List.getD_eq_getElem?_getD, List.getElem?_eq_none (by omega)]
        rfl
      simp [-List.map_append, h3, hk2, la, fLc_ap, sw, lw]
      rw [lcL_rng (F := fun j => .int (qbit ws k j))]
      rotate_left
      · intro j hj
        exact ⟨_, rfl, rfl, by unfold qbit; rw [e]; simp [PyProof.Rows.bitAnd_m1]⟩
      simp [la, l2, rowsQ]
  have := lows_int s.length (tb ws n w)
  have hf : fin false s.length (.tup ((tb ws n w).map D.int)) (s ++ [.lst ((tb ws n w).map .int)]) = some (.ok (.tup ((tb ws n w).map .int)) s) := fin_app hs (by rw [low]; exact this)
  simpa [lstO, tb] using hf
end
end LW
set_option Elab.async false
set_option maxRecDepth 100000
set_option maxHeartbeats 4000000
set_option linter.all false
set_option autoImplicit false
namespace LW
open PySem L2 VM
/-! ### words out of bits -/
theorem cutD_to {α : Type} (ds : List α) (f : α → D) (k : Nat) : cutD (ds.map f) none (some (k : Int)) = (ds.take k).map f := by
  unfold cutD
  simp only [HT.sIx_none, HT.sIx_nat]
  rw [List.drop_zero, Nat.sub_zero, ← List.map_take]
  congr 1
  by_cases h : k ≤ ds.length
  · rw [Nat.min_eq_left (by simpa using h)]
  · rw [Nat.min_eq_right (by simp; omega), List.take_of_length_le (by simp), List.take_of_length_le (by omega)]
theorem cutD_from {α : Type} (ds : List α) (f : α → D) (k : Nat) : cutD (ds.map f) (some (k : Int)) none = (ds.drop k).map f := by
  unfold cutD
  simp only [HT.sIx_none, HT.sIx_nat]
  rw [List.take_of_length_le (by simp), List.map_drop, List.length_map]
  by_cases h : k ≤ ds.length
  · rw [Nat.min_eq_left h]
  · rw [Nat.min_eq_right (by omega), List.drop_of_length_le (by simp), List.drop_of_length_le (by simp; omega)]
theorem wsum_sum (bs : List Int) (a : Nat) : ∀ w, ((List.range w).map fun j => bs.getD (a + j) 0 * 2 ^ j).sum = wsum bs a w
  | 0 => rfl
  | w + 1 => by rw [List.range_succ, List.map_append, List.sum_append, wsum_sum bs a w, wsum]; simp
theorem wds_snoc (bs : List Int) (n w m : Nat) : wds bs n w (m + 1) = wds bs n w m ++ [wsum bs (n + m * w) w] := by
  unfold wds
  rw [List.range_succ, List.map_append]
  rfl
theorem datD_ints (l : List Int) : datD 1 (.tup (l.map D.int)) = true := by
  rw [datD, List.all_map, List.all_eq_true]
  exact fun _ _ => rfl
theorem neD_ints {s : Sto} (a b : List Int) : neD s (.tup (a.map D.int)) (.tup (b.map D.int)) = some (.bl (!decide (a = b))) := by
  rw [neD_dat (datD_ints a) (datD_ints b) (by decide) (by decide), eqv_ints]
theorem eqD_ints {s : Sto} (a b : List Int) : eqD s (.tup (a.map D.int)) (.tup (b.map D.int)) = some (.bl (decide (a = b))) := by
  rw [eqD_dat (datD_ints a) (datD_ints b) (by decide) (by decide), eqv_ints]
/-- the words of bits, if there are such -/
def lenB (bs : List Int) (n : Nat) : Nat := (bs.take n).sum.toNat
def backD (bs : List Int) (n w : Nat) : D := if tb (wds bs n w (lenB bs n)) n w = bs then .tup ((wds bs n w (lenB bs n)).map .int) else .non
section
variable {s : Sto} (hs : Low s) {bs : List Int} {n w : Nat} (hn : n ≤ 10) (hw : w ≤ 10) (hb : ∀ a ∈ bs, a = 0 ∨ a = 1) (hl : bs.length = n + n * w)
include hs hn hw hb hl
theorem bit_at {k j : Nat} (hk : k < n) (hj : j < w) : bs[n + k * w + j]? = some (bs.getD (n + k * w + j) 0) ∧ (bs.getD (n + k * w + j) 0 = 0 ∨ bs.getD (n + k * w + j) 0 = 1) := by
  have h : n + k * w + j < bs.length := by
    rw [hl]
    have : (k + 1) * w ≤ n * w := Nat.mul_le_mul_right w hk
    rw [Nat.succ_mul] at this
    omega
  exact ⟨some_getD h, hb _ (mem_getD h)⟩
theorem lenB_le : lenB bs n ≤ n ∧ (bs.take n).sum = (lenB bs n : Int) := by
  have h := sum_bits01 (l := bs.take n) fun a ha => hb a (List.mem_of_mem_take ha)
  have h2 : (bs.take n).length = n := by rw [List.length_take]; omega
  unfold lenB
  omega
theorem qob_ap : m_queue_of_bits s [.tup (bs.map .int), .int n, .int w] = some (.ok (backD bs n w) s) := by
  have sn := smallI_len (show n < 100000 by omega)
  have sw := smallI_len (show w < 100000 by omega)
  have lw : w ≤ LIM := le_LIM (by omega)
  obtain ⟨hL, hS⟩ := lenB_le hs hn hw hb hl
  simp [m_queue_of_bits, VM.run, g_queue_of_bits, startD, sn]
  rw [cutD_to bs D.int n]
  rw [sumD2_tup, hS]
  simp [sn]
  generalize hX : forL _ _ _ _ _ _ = X
  obtain ⟨ρ', s', rfl, rfl, y, z, rfl⟩ : ∃ ρ' s', X = some (.nx ρ' s') ∧ s' = s ++ [.lst ((wds bs n w n).map .int)] ∧ ∃ y z, ρ' = [some (.tup (bs.map .int)), some (.int n), some (.int w), some (.int (lenB bs n)), some (.own s.length), y, z, none] := by
    subst hX
    refine forL_rngP (P := fun k ρ' s' => s' = s ++ [.lst ((wds bs n w k).map .int)] ∧ ∃ y z, ρ' = [some (.tup (bs.map .int)), some (.int n), some (.int w), some (.int (lenB bs n)), some (.own s.length), y, z, none]) ⟨rfl, none, none, rfl⟩ fun k hk ρ s' hp => ?_
    obtain ⟨rfl, y, z, rfl⟩ := hp
    refine ⟨_, rfl, ?_⟩
    have la : ∀ ds : List D, lstAt (s ++ [.lst ds]) s.length = some ds := fun ds => by simp [lstAt]
    have m1 : mulI (k : Int) (w : Int) = some (.int ((k : Int) * w)) := mulI_of ((mulOk_iff _ _).mpr (.inl (by omega)))
    have l1 : (wds bs n w k).length < LIM := lt_LIM (by rw [wds_len]; omega)
    simp [-List.getD_eq_getElem?_getD, m1, sw, fLc_ap, lw, lstO]
    rw [lcL_rng (F := fun j => .int (bs.getD (n + k * w + j) 0 * 2 ^ j))]
    rotate_left
    · intro j hj
      obtain ⟨e1, e2⟩ := bit_at hs hn hw hb hl hk hj
      have e3 : (n : Int) + (k : Int) * w + (j : Int) = ((n + k * w + j : Nat) : Int) := by push_cast; rfl
      have e4 := shlI_nat (i := bs.getD (n + k * w + j) 0) (k := j) (by omega) (by omega) (by omega)
      exact ⟨_, rfl, rfl, by simp [-List.getD_eq_getElem?_getD, -Int.natCast_add, -Int.natCast_mul, e3, atI_nat', e1, e4]⟩
    simp [-List.getD_eq_getElem?_getD, wsum_sum, appD_own, lstO, l1, wds_snoc]
  have hlow : Low (s ++ [.lst ((wds bs n w n).map D.int)]) := hs.snoc (lows_int _ _)
  have qb := qbits_ap hlow (ws := wds bs n w (lenB bs n)) hn hw (by rw [wds_len]; omega) (x := .lst ((wds bs n w (lenB bs n)).map .int)) (by simp) (fun s2 k hk => by
    simp [-List.getD_eq_getElem?_getD, atI_nat', some_getD hk]) (fun s2 => by simp)
  have tk : cutD ((wds bs n w n).map D.int) none (some ((lenB bs n : Nat) : Int)) = (wds bs n w (lenB bs n)).map D.int := by rw [cutD_to, wds_take _ _ _ hL]
  simp [lstO, tk, qb, neD_ints]
  unfold backD
  by_cases h : tb (wds bs n w (lenB bs n)) n w = bs
  · have h' : bs = tb (wds bs n w (lenB bs n)) n w := h.symm
    rw [if_pos h]
    have hf : fin false s.length (.tup ((wds bs n w (lenB bs n)).map D.int)) (s ++ [.lst ((wds bs n w n).map .int)]) = some (.ok (.tup ((wds bs n w (lenB bs n)).map .int)) s) := fin_app hs (by rw [low]; exact lows_int _ _)
    simp [← h', tk, hf]
  · have h' : ¬ bs = tb (wds bs n w (lenB bs n)) n w := fun e => h e.symm
    rw [if_neg h]
    have hf : fin false s.length .non (s ++ [.lst ((wds bs n w n).map .int)]) = some (.ok .non s) := fin_app hs rfl
    simp [h', hf]
end
end LW
set_option Elab.async false
set_option maxRecDepth 100000
set_option maxHeartbeats 4000000
set_option linter.all false
set_option autoImplicit false
namespace LW
open PySem L2 VM
/-! ### the law's words out of bits -/
section
variable {s : Sto} (hs : Low s) {bs : List Int} {n w : Nat} (hn : n ≤ 10) (hw : w ≤ 10) (hb : ∀ a ∈ bs, a = 0 ∨ a = 1) (hl : bs.length = n + n * w)
/-- at a turn of the search: words of other lengths lie about -/
def PBk (s : Sto) (bs : List Int) (n w : Nat) (ρ' : Rho) (s' : Sto) : Prop := (∃ t, s' = s ++ t ∧ Low (s ++ t)) ∧ ∃ x y z, ρ' = [some (.tup (bs.map .int)), some (.int n), some (.int w), x, y, z, none]
noncomputable abbrev gBk : MS := fSeq (fAsg (fOwn (fNil)) (gNm 4)) (fSeq (fFor (fRng1 (fVar 3)) (gNm 5) (fDrop (fApp (fOL (fVar 4)) (fCB (c1 sumD2) (fCons (fLc (fRng1 (fVar 2)) (gNm 6) (VM.ret true) (fOp mulU (fOp ixD (fVar 0) (fOp addD (fOp addD (fVar 1) (fOp mulU (fVar 5) (fVar 2))) (fVar 6))) (fOp (i2 shlI) (fC (.int 1)) (fVar 6))) [6]) (fNil)))))) (fIfS (fBl (fOp eqD (fCall 3 m__law_told (fCons (fVar 4) (fCons (fVar 1) (fCons (fVar 2) (fNil))))) (fCB (c1 tupleD) (fCons (fVar 0) (fNil))))) (fRet (fCB (c1 tupleD) (fCons (fVar 4) (fNil)))) (fNx)))
include hs hn hw hb hl
theorem back_in {m : Nat} (hm : m ≤ n) {ρ : Rho} {s' : Sto} (hp : PBk s bs n w ρ s') : ∃ ρ1, gNm 3 (.int (0 + (m : Int))) ρ = some ρ1 ∧
    (tb (wds bs n w m) n w = bs → gBk ρ1 s' = some (.rt (.tup ((wds bs n w m).map .int)) (s' ++ [.lst ((wds bs n w m).map .int)]))) ∧
    (tb (wds bs n w m) n w ≠ bs → nxP (PBk s bs n w) (gBk ρ1 s')) := by
  obtain ⟨⟨t, rfl, hlow⟩, x, y, z, rfl⟩ := hp
  have sn := smallI_len (show n < 100000 by omega)
  have sm := smallI_len (show m < 100000 by omega)
  have sw := smallI_len (show w < 100000 by omega)
  have lw : w ≤ LIM := le_LIM (by omega)
  refine ⟨_, rfl, ?_⟩
  simp [sm]
  generalize hX : forL _ _ _ _ _ _ = X
  obtain ⟨ρ', s2, rfl, rfl, rfl⟩ : ∃ ρ' s2, X = some (.nx ρ' s2) ∧ s2 = s ++ (t ++ [.lst ((wds bs n w m).map .int)]) ∧ ρ' = [some (.tup (bs.map .int)), some (.int n), some (.int w), some (.int (m : Int)), some (.own (s.length + t.length)), if m = 0 then z else some (.int ((m : Int) - 1)), none] := by
    subst hX
    refine forL_rngP (P := fun k ρ' s2 => s2 = s ++ (t ++ [.lst ((wds bs n w k).map .int)]) ∧ ρ' = [some (.tup (bs.map .int)), some (.int n), some (.int w), some (.int (m : Int)), some (.own (s.length + t.length)), if k = 0 then z else some (.int ((k : Int) - 1)), none]) ⟨rfl, rfl⟩ fun k hk ρ s2 hp => ?_
    obtain ⟨rfl, rfl⟩ := hp
    refine ⟨_, rfl, ?_⟩
    have m1 : mulI (k : Int) (w : Int) = some (.int ((k : Int) * w)) := mulI_of ((mulOk_iff _ _).mpr (.inl (by omega)))
    have l1 : (wds bs n w k).length < LIM := lt_LIM (by rw [wds_len]; omega)
    have la : ∀ x : SO, (s ++ (t ++ [x]))[s.length + t.length]? = some x := fun x => by
      rw [← List.append_assoc, List.getElem?_append_right (by simp)]
      simp
    have ls : ∀ x y : SO, (s ++ (t ++ [x])).set (s.length + t.length) y = s ++ (t ++ [y]) := fun x y => by
      rw [← List.append_assoc, ← List.length_append, set_last, List.append_assoc]
    simp [-List.getD_eq_getElem?_getD, m1, sw, fLc_ap, lw, la]
    rw [lcL_rng (F := fun j => .int (bs.getD (n + k * w + j) 0 * 2 ^ j))]
    rotate_left
    · intro j hj
      obtain ⟨e1, e2⟩ := bit_at hs hn hw hb hl (show k < n by omega) hj
      have e3 : (n : Int) + (k : Int) * w + (j : Int) = ((n + k * w + j : Nat) : Int) := by push_cast; rfl
      have e4 : mulI (bs.getD (n + k * w + j) 0) (2 ^ j) = some (.int (bs.getD (n + k * w + j) 0 * 2 ^ j)) := mulI_of ((mulOk_iff _ _).mpr (.inl (by omega)))
      have e5 := shlI_one (k := j) (by omega)
      exact ⟨_, rfl, rfl, by simp [-List.getD_eq_getElem?_getD, -Int.natCast_add, -Int.natCast_mul, m1, e3, atI_nat', e1, e4, e5]⟩
    simp [-List.getD_eq_getElem?_getD, wsum_sum, appD_own, la, ls, l1, wds_snoc]
  have hlow2 : Low (s ++ (t ++ [.lst ((wds bs n w m).map D.int)])) := by
    rw [← List.append_assoc]
    exact hlow.snoc (lows_int _ _)
  have la : (s ++ (t ++ [.lst ((wds bs n w m).map D.int)]))[s.length + t.length]? = some (.lst ((wds bs n w m).map D.int)) := by
    rw [← List.append_assoc, List.getElem?_append_right (by simp)]
    simp
  have tl := ltold_ap hlow2 (ws := wds bs n w m) hn hw (by rw [wds_len]; omega) (x := .own (s.length + t.length)) (by simp [la]) (by simp [la])
  simp [-List.getElem?_append, tl, eqD_ints, la]
  refine ⟨fun h => by simp [h, la], fun h => ?_⟩
  simp [h]
  exact ⟨⟨_, rfl, hlow2⟩, _, _, _, rfl⟩
theorem back_ap : m__law_back s [.tup (bs.map .int), .int n, .int w] = some (.ok (backD bs n w) s) := by
  have sn : smallI ((n : Int) + 1) = true := smallI_of (by omega) (by omega)
  obtain ⟨hL, hS⟩ := lenB_le hs hn hw hb hl
  have key : ∀ m, m ≤ n → tb (wds bs n w m) n w = bs → m = lenB bs n := fun m hm h => by
    have := tb_size (by rw [wds_len]; exact hm) h
    rw [wds_len] at this
    omega
  have nxt : ∀ m, m ≤ n → tb (wds bs n w m) n w ≠ bs → ∀ ρ s', PBk s bs n w ρ s' → ∃ ρ1, gNm 3 (.int (0 + (m : Int))) ρ = some ρ1 ∧ nxP (PBk s bs n w) (gBk ρ1 s') := fun m hm h ρ s' hp => by
    obtain ⟨ρ1, e1, e2, e3⟩ := back_in hs hn hw hb hl hm hp
    exact ⟨ρ1, e1, e3 h⟩
  have p0 : PBk s bs n w [some (.tup (bs.map .int)), some (.int n), some (.int w), none, none, none, none] s := ⟨⟨[], by simp, by simpa using hs⟩, none, none, none, rfl⟩
  unfold backD
  by_cases h : tb (wds bs n w (lenB bs n)) n w = bs
  · rw [if_pos h]
    obtain ⟨x, s', e, hx, t, rfl⟩ : ∃ x s', forL (gNm 3) gBk none (rngD 0 (n + 1)) [some (.tup (bs.map .int)), some (.int n), some (.int w), none, none, none, none] s = some (.rt x s') ∧ x = .tup ((wds bs n w (lenB bs n)).map .int) ∧ ∃ t, s' = s ++ t := by
      rw [rngD_split (show lenB bs n < n + 1 by omega)]
      refine forL_R (P := fun _ => PBk s bs n w) p0 (fun i hi ρ s' hp => ?_) fun ρ s' hp => ?_
      · rw [rngD_get hi]
        rw [rngD_length] at hi
        exact nxt i (by omega) (fun z => by have := key i (by omega) z; omega) ρ s' hp
      · obtain ⟨ρ1, e1, e2, e2x⟩ := back_in hs hn hw hb hl hL hp
        refine ⟨ρ1, e1, ?_⟩
        rw [e2 h, rtP_rt]
        obtain ⟨⟨t, rfl, hlow⟩, _⟩ := hp
        exact ⟨rfl, _, by rw [List.append_assoc]⟩
    subst hx
    have hf : fin false s.length (.tup ((wds bs n w (lenB bs n)).map D.int)) (s ++ t) = some (.ok (.tup ((wds bs n w (lenB bs n)).map .int)) s) := fin_app hs (by rw [low]; exact lows_int _ _)
    simp [m__law_back, VM.run, g__law_back, startD, sn]
    rw [e]
    simp [hf]
  · rw [if_neg h]
    obtain ⟨ρ', s', e, ⟨t, rfl, hlow⟩, _⟩ := forL_rngP (gt := gNm 3) (fb := gBk) (P := fun _ => PBk s bs n w) (lo := 0) (n := n + 1) p0 fun i hi ρ s' hp => nxt i (by omega) (fun z => h (by rw [← key i (by omega) z]; exact z)) ρ s' hp
    have hf : fin false s.length .non (s ++ t) = some (.ok .non s) := fin_app hs rfl
    simp [m__law_back, VM.run, g__law_back, startD, sn]
    rw [e]
    simp [hf]
end
end LW
set_option Elab.async false
set_option maxRecDepth 100000
set_option maxHeartbeats 4000000
set_option linter.all false
set_option autoImplicit false
namespace LW
open PySem L2 VM
/-! ### names of a queue's bits -/
def nmA (k : Nat) : Str := ("q.more" : Str) ++ istr (k : Int)
def nmB (k j : Nat) : Str := ("q." : Str) ++ istr (k : Int) ++ ("." : Str) ++ istr (j : Int)
def nmR (w : Nat) : Nat → List Str
  | 0 => []
  | n + 1 => nmR w n ++ (List.range w).map (nmB n)
def nmL (n w : Nat) : List Str := (List.range n).map nmA ++ nmR w n
theorem nmR_len (w : Nat) : ∀ n, (nmR w n).length = n * w
  | 0 => by simp [nmR]
  | n + 1 => by rw [nmR, List.length_append, nmR_len w n, List.length_map, List.length_range, Nat.succ_mul]
theorem nmA_ok : ∀ k, k < 10 → PyData.strOk (nmA k) = true := by decide +kernel
theorem nmB_ok : ∀ k, k < 10 → ∀ j, j < 10 → PyData.strOk (nmB k j) = true := by decide +kernel
theorem nmL_ok {n w : Nat} (hn : n ≤ 10) (hw : w ≤ 10) : datD 1 (.lst ((nmL n w).map .str)) = true := by
  have : ∀ m, m ≤ n → ∀ x ∈ nmR w m, PyData.strOk x = true := fun m => by
    induction m with
    | zero => intro _ x h; exact nomatch h
    | succ m ih =>
      intro hm x hx
      rw [nmR] at hx
      rcases List.mem_append.mp hx with h | h
      · exact ih (by omega) x h
      · obtain ⟨j, hj, rfl⟩ := List.mem_map.mp h
        exact nmB_ok m (by omega) j (by have := List.mem_range.mp hj; omega)
  rw [datD, List.all_map, List.all_eq_true]
  intro x hx
  unfold nmL at hx
  show PyData.strOk x = true
  rcases List.mem_append.mp hx with h | h
  · obtain ⟨k, hk, rfl⟩ := List.mem_map.mp h
    exact nmA_ok k (by have := List.mem_range.mp hk; omega)
  · exact this n (Nat.le_refl _) x h
theorem istr_s {k : Nat} (h : k ≤ 10) : strI (k : Int) = true ∧ (istr (k : Int)).length ≤ 2 := ⟨strI_small (by omega), istr_len64 k (by omega)⟩
theorem len_qm : ("q.more" : Str).length = 6 := by decide
theorem len_q : ("q" : Str).length = 1 := by decide
theorem len_qd : ("q." : Str).length = 2 := by decide
theorem len_d : ("." : Str).length = 1 := by decide
theorem len_m : (".more" : Str).length = 5 := by decide
theorem qm_eq : ("q" : Str) ++ (".more" : Str) = ("q.more" : Str) := by decide
theorem qd_eq : ("q" : Str) ++ ("." : Str) = ("q." : Str) := by decide
theorem nameA_ap {s : Sto} {k : Nat} (hk : k ≤ 10) : addD s (.str ("q.more" : Str)) (.str (istr (k : Int))) = some (.str (nmA k)) := by
  obtain ⟨h1, h2⟩ := istr_s hk
  have l1 : ("q.more" : Str).length + (istr (k : Int)).length ≤ LIM := le_LIM (by rw [len_qm]; omega)
  rw [addD_str, if_pos l1, nmA]
theorem slen_app (a b : Str) : (a ++ b).length = a.length + b.length := by
  show (a.cps ++ b.cps).size = _
  rw [Array.size_append]
  rfl
theorem nameB_ap {s : Sto} {k j : Nat} (hk : k ≤ 10) (hj : j ≤ 10) : ∃ a b, addD s (.str ("q." : Str)) (.str (istr (k : Int))) = some a ∧ addD s a (.str ("." : Str)) = some b ∧ addD s b (.str (istr (j : Int))) = some (.str (nmB k j)) := by
  obtain ⟨h1, h2⟩ := istr_s hk
  obtain ⟨h3, h4⟩ := istr_s hj
  have l1 : ("q." : Str).length + (istr (k : Int)).length ≤ LIM := le_LIM (by rw [len_qd]; omega)
  have q1 : (("q." : Str) ++ istr (k : Int)).length = ("q." : Str).length + (istr (k : Int)).length := slen_app _ _
  have q2 : (("q." : Str) ++ istr (k : Int) ++ ("." : Str)).length = (("q." : Str) ++ istr (k : Int)).length + ("." : Str).length := slen_app _ _
  have l2 : (("q." : Str) ++ istr (k : Int)).length + ("." : Str).length ≤ LIM := le_LIM (by rw [q1, len_qd, len_d]; omega)
  have l3 : (("q." : Str) ++ istr (k : Int) ++ ("." : Str)).length + (istr (j : Int)).length ≤ LIM := le_LIM (by rw [q2, q1, len_qd, len_d]; omega)
  refine ⟨_, _, by rw [addD_str, if_pos l1], by rw [addD_str, if_pos l2], by rw [addD_str, if_pos l3, nmB]⟩
section
variable {s : Sto} (hs : Low s) {n w : Nat} (hn : n ≤ 10) (hw : w ≤ 10)
include hs hn hw
theorem names_ap : m_queue_names s [.str ("q" : Str), .int n, .int w] = some (.ok (.lst ((nmL n w).map .str)) s) := by
  have sn := smallI_len (show n < 100000 by omega)
  have sw := smallI_len (show w < 100000 by omega)
  have ln : n ≤ LIM := le_LIM (by omega)
  have l6 : ("q" : Str).length + (".more" : Str).length ≤ LIM := le_LIM (by rw [len_q, len_m]; omega)
  have l7 : ("q" : Str).length + ("." : Str).length ≤ LIM := le_LIM (by rw [len_q, len_d]; omega)
  have a1 : ∀ s, addD s (.str ("q" : Str)) (.str (".more" : Str)) = some (.str ("q.more" : Str)) := fun s => by rw [addD_str, if_pos l6, qm_eq]
  have a2 : ∀ s, addD s (.str ("q" : Str)) (.str ("." : Str)) = some (.str ("q." : Str)) := fun s => by rw [addD_str, if_pos l7, qd_eq]
  simp [-addD_str, m_queue_names, VM.run, g_queue_names, startD, sn, fLc_ap, ln]
  rw [lcL_rng (F := fun k => .str (nmA k))]
  rotate_left
  · intro k hk
    exact ⟨_, rfl, rfl, by simp [-addD_str, a1, (istr_s (show k ≤ 10 by omega)).1, nameA_ap (s := s) (show k ≤ 10 by omega)]⟩
  simp [-addD_str, fLc2_ap, sn]
  generalize hX : clL _ _ _ _ _ _ _ _ = X
  obtain ⟨b, s', rfl, rfl, rfl⟩ : ∃ b s', X = some (b, s') ∧ s = s' ∧ b = (nmR w n).map D.str := by
    subst hX
    refine clL_rngP (P := fun k (b : List D) s' => s = s' ∧ b = (nmR w k).map D.str) ⟨rfl, rfl⟩ fun k hk b s' hp => ?_
    obtain ⟨rfl, rfl⟩ := hp
    refine ⟨_, rfl, rfl, ?_⟩
    simp [-addD_str, cl1_ap, sw]
    obtain ⟨b', s', e, rfl, rfl⟩ := clL_rngP (gt := gNm 5) (ft := VM.ret true) (bd := lcB (fOp addD (fOp addD (fOp addD (fOp addD (fVar 0) (fC (.str ("." : Str)))) (fCB (c1 strD) (fCons (fVar 4) (fNil)))) (fC (.str ("." : Str)))) (fCB (c1 strD) (fCons (fVar 5) (fNil))))) (lo := 0) (n := w) (s := s) (b := (nmR w k).map D.str)
      (ρ := [some (.str ("q" : Str)), some (.int n), some (.int w), some (.lst ((List.range n).map fun k => D.str (nmA k))), some (.int (k : Int)), none])
      (P := fun j (b : List D) s' => s = s' ∧ b = (nmR w k ++ (List.range j).map (nmB k)).map D.str) ⟨rfl, by rw [List.range_zero, List.map_nil, List.append_nil]⟩ fun j hj b s' hp => by
        obtain ⟨rfl, rfl⟩ := hp
        refine ⟨_, rfl, rfl, ?_⟩
        have hk2 : k ≤ 10 := by omega
        have hj2 : j ≤ 10 := by omega
        obtain ⟨a, b, e1, e2, e3⟩ := nameB_ap (s := s) hk2 hj2
        have l1 : (nmR w k).length + j < LIM := lt_LIM (by
          rw [nmR_len]
          have : k * w ≤ 10 * 10 := Nat.mul_le_mul hk2 hw
          omega)
        simp [-addD_str, lcB_ap, a2, (istr_s hk2).1, (istr_s hj2).1, e1, e2, e3, l1, List.range_succ]
    simp [-addD_str] at e
    rw [e]
    simp [nmR]
  have l2 : n + (nmR w n).length ≤ LIM := le_LIM (by
    rw [nmR_len]
    have : n * w ≤ 10 * 10 := Nat.mul_le_mul hn hw
    omega)
  have hf : fin false s.length (.lst ((nmL n w).map .str)) s = some (.ok (.lst ((nmL n w).map .str)) s) := fin_low hs (by rw [low]; exact lows_mapT (fun _ => rfl) _)
  unfold nmL at hf
  simp at hf
  simp [l2, nmL]
  exact hf
end
/-! ### equal data are told to be the same -/
/-- data that _law_same takes -/
noncomputable def okS : Nat → D → Bool
  | _, .non => true
  | _, .bl _ => true
  | _, .int _ => true
  | _, .str _ => true
  | n + 1, .lst ds => decide (ds.length ≤ LIM) && ds.all (okS n)
  | n + 1, .tup ds => decide (ds.length ≤ LIM) && ds.all (okS n)
  | _, _ => false
theorem eqD_nil {s : Sto} : eqD s (.lst []) (.lst []) = some (.bl true) := nrf rfl
theorem same_seq {M : FM} {s : Sto} {ds : List D} (hs : Low s) (hl : ds.length ≤ LIM) (h : ∀ x ∈ ds, M s [x, x] = some (.ok (.bl true) s)) (C : List D → D) (hC : C = .lst ∨ C = .tup) : VM.run false 3 (g__law_same M) s [C ds, C ds] = some (.ok (.bl true) s) := by
  have c2 : smallI (ds.length : Int) = true := smallI_nat hl
  rcases hC with rfl | rfl
  · have hlc := lcL_none (gt := gNm 2) (ρ := [some (D.lst ds), some (D.lst ds), none]) (s := s) (fe := fC (.int 1)) (ft := fNotT (fTru (fCall 2 M (fCons (fOp ixD (fVar 0) (fVar 2)) (fCons (fOp ixD (fVar 1) (fVar 2)) fNil))))) (ds := rngD 0 ds.length) fun d hd => by
      obtain ⟨i, hi, rfl⟩ := mem_rngD hd
      refine ⟨_, rfl, ?_⟩
      simp [atI_nat', List.getElem?_eq_getElem hi, h _ (List.getElem_mem hi)]
    simp [VM.run, g__law_same, startD, fLc_ap, c2, hl, hlc, eqD_nil, finB hs]
  · have hlc := lcL_none (gt := gNm 2) (ρ := [some (D.tup ds), some (D.tup ds), none]) (s := s) (fe := fC (.int 1)) (ft := fNotT (fTru (fCall 2 M (fCons (fOp ixD (fVar 0) (fVar 2)) (fCons (fOp ixD (fVar 1) (fVar 2)) fNil))))) (ds := rngD 0 ds.length) fun d hd => by
      obtain ⟨i, hi, rfl⟩ := mem_rngD hd
      refine ⟨_, rfl, ?_⟩
      simp [atI_nat', List.getElem?_eq_getElem hi, h _ (List.getElem_mem hi)]
    simp [VM.run, g__law_same, startD, fLc_ap, c2, hl, hlc, eqD_nil, finB hs]
theorem same_refl {s : Sto} (hs : Low s) : ∀ (n : Nat) (d : D), okS n d = true → m__law_same (n + 1) s [d, d] = some (.ok (.bl true) s)
  | n, .non, _ => by
    show VM.run false 3 (g__law_same (m__law_same n)) s [.non, .non] = _
    generalize m__law_same n = M
    simp [VM.run, g__law_same, startD, finB hs]
  | n, .bl b, _ => by
    show VM.run false 3 (g__law_same (m__law_same n)) s [.bl b, .bl b] = _
    generalize m__law_same n = M
    simp [VM.run, g__law_same, startD, finB hs]
  | n, .int b, _ => by
    show VM.run false 3 (g__law_same (m__law_same n)) s [.int b, .int b] = _
    generalize m__law_same n = M
    simp [VM.run, g__law_same, startD, finB hs]
  | n, .str b, _ => by
    show VM.run false 3 (g__law_same (m__law_same n)) s [.str b, .str b] = _
    generalize m__law_same n = M
    simp [VM.run, g__law_same, startD, finB hs]
  | n + 1, .lst ds, h => by
    simp only [okS, Bool.and_eq_true, decide_eq_true_eq, List.all_eq_true] at h
    exact same_seq hs h.1 (fun x hx => same_refl hs n x (h.2 x hx)) _ (.inl rfl)
  | n + 1, .tup ds, h => by
    simp only [okS, Bool.and_eq_true, decide_eq_true_eq, List.all_eq_true] at h
    exact same_seq hs h.1 (fun x hx => same_refl hs n x (h.2 x hx)) _ (.inr rfl)
  | 0, .lst _, h => by simp [okS] at h
  | 0, .tup _, h => by simp [okS] at h
  | n, .own _, h => by cases n <;> simp [okS] at h
  | n, .lck _, h => by cases n <;> simp [okS] at h
  | n, .ins _ _ _, h => by cases n <;> simp [okS] at h
  | n, .dct _ _ _, h => by cases n <;> simp [okS] at h
  | n, .set _ _, h => by cases n <;> simp [okS] at h
  | n, .fn _, h => by cases n <;> simp [okS] at h
  | n, .lam _ _ _ _ _, h => by cases n <;> simp [okS] at h
end LW
set_option Elab.async false
set_option maxRecDepth 100000
set_option maxHeartbeats 4000000
set_option linter.all false
set_option autoImplicit false
namespace LW
open PySem L2 VM
theorem two {x : Int} (h0 : 0 ≤ x) (h1 : x < 2) : x = 0 ∨ x = 1 := by omega
theorem dr2 (τ : Tau) : dr τ 2 = 0 ∨ dr τ 2 = 1 := two (dr_lo τ 2) (dr_hi τ (by decide))
theorem start_ap (ns : List Int) : ∃ τ, m__law_start [] [.lck (ns.map D.int)] = some (.ok (.own 0) [tp τ]) := by
  refine ⟨⟨ns, 0, 0, 7, by decide, by decide, by decide, by decide⟩, ?_⟩
  simp [m__law_start, VM.run, g__law_start, startD, tp, fin, lowS, lows, low, lows_int]
theorem ge_nat {x : Int} (h : 0 ≤ x) : ∃ n : Nat, x = n := ⟨x.toNat, by omega⟩
theorem okS_succ : ∀ (m : Nat) (d : D), okS m d = true → okS (m + 1) d = true
  | m, .non, _ => rfl
  | m, .bl _, _ => rfl
  | m, .int _, _ => rfl
  | m, .str _, _ => rfl
  | m + 1, .lst ds, h => by
    simp only [okS, Bool.and_eq_true, decide_eq_true_eq, List.all_eq_true] at h ⊢
    exact ⟨h.1, fun x hx => okS_succ m x (h.2 x hx)⟩
  | m + 1, .tup ds, h => by
    simp only [okS, Bool.and_eq_true, decide_eq_true_eq, List.all_eq_true] at h ⊢
    exact ⟨h.1, fun x hx => okS_succ m x (h.2 x hx)⟩
  | 0, .lst _, h => by simp [okS] at h
  | 0, .tup _, h => by simp [okS] at h
  | n, .own _, h => by cases n <;> simp [okS] at h
  | n, .lck _, h => by cases n <;> simp [okS] at h
  | n, .ins _ _ _, h => by cases n <;> simp [okS] at h
  | n, .dct _ _ _, h => by cases n <;> simp [okS] at h
  | n, .set _ _, h => by cases n <;> simp [okS] at h
  | n, .fn _, h => by cases n <;> simp [okS] at h
  | n, .lam _ _ _ _ _, h => by cases n <;> simp [okS] at h
/-! ### one turn of the law -/
theorem okS_ints (l : List Int) (h : l.length ≤ LIM) : okS 1 (.tup (l.map D.int)) = true := by
  simp only [okS, List.length_map, h, decide_true, Bool.true_and, List.all_map, List.all_eq_true]
  exact fun _ _ => rfl
theorem shl_w {w : Nat} (hw : w ≤ 10) : shlI 1 (w : Int) = some (.int (2 ^ w)) := shlI_one (by omega)
theorem pow_w {w : Nat} (hw : w ≤ 10) : (0 : Int) < 2 ^ w ∧ (2 : Int) ^ w < 1073741824 := by
  refine ⟨Int.pow_pos (by decide), ?_⟩
  have h1 : (2 : Nat) ^ w ≤ 2 ^ 10 := Nat.pow_le_pow_right (by decide) hw
  have h2 : ((2 ^ w : Nat) : Int) = (2 : Int) ^ w := by push_cast; rfl
  omega
theorem pickM {M : Mkr} (τ : Tau) {m : Int} (h1 : 0 < m) (h2 : m < 1073741824) : m__law_pick (SM (tp τ) M []) [.own 0, .int m] = some (.ok (.int (dr τ m)) (SM (tp (nx τ m)) M [])) := by
  have hp : PostOk (tp τ) [] := ⟨lowS_tp _ _, rfl⟩
  have := SM_low (M := M) hp
  unfold Low SM at this
  rw [List.all_cons, Bool.and_eq_true] at this
  exact pick_ap h1 h2 this.2
/-- words below a bound are drawn -/
theorem draws {M : Mkr} {w : Nat} (hw : w ≤ 10) {ρ : Rho} {gt : D → Rho → Option Rho} {fe : VM.M D} {lo : Int} (hfe : ∀ i : Nat, ∃ ρ1, gt (.int (lo + (i : Int))) ρ = some ρ1 ∧ ∀ τ, fe ρ1 (SM (tp τ) M []) = some (.ok (.int (dr τ (2 ^ w))) (SM (tp (nx τ (2 ^ w))) M []))) (m : Nat) (τ : Tau) :
    ∃ (ws : List Int) (τ' : Tau), lcL gt (VM.ret true) fe none ρ (rngD lo m) (SM (tp τ) M []) = some (ws.map .int, SM (tp τ') M []) ∧ ws.length = m ∧ ∀ x ∈ ws, 0 ≤ x ∧ x < 2 ^ w := by
  obtain ⟨ys, s', e, ws, τ', rfl, rfl, h1, h2⟩ := lcL_rngP (gt := gt) (ft := VM.ret true) (fe := fe) (ρ := ρ) (lo := lo) (n := m) (s := SM (tp τ) M []) (P := fun k ys s' => ∃ (ws : List Int) (τ' : Tau), ys = ws.map .int ∧ s' = SM (tp τ') M [] ∧ ws.length = k ∧ ∀ x ∈ ws, 0 ≤ x ∧ x < 2 ^ w)
    ⟨[], τ, rfl, rfl, rfl, fun x h => nomatch h⟩ fun k hk acc s hp => by
      obtain ⟨ws, τ', rfl, rfl, h1, h2⟩ := hp
      obtain ⟨ρ1, e1, e2⟩ := hfe k
      refine ⟨ρ1, e1, rfl, ?_⟩
      rw [e2, okP_ok]
      refine ⟨ws ++ [dr τ' (2 ^ w)], nx τ' (2 ^ w), by rw [List.map_append]; rfl, rfl, by simp [h1], fun x hx => ?_⟩
      rcases List.mem_append.mp hx with h | h
      · exact h2 x h
      · rw [List.mem_singleton.mp h]
        exact ⟨dr_lo _ _, dr_hi _ (pow_w hw).1⟩
  exact ⟨ws, τ', e, h1, h2⟩
theorem lbits_ap {M : Mkr} (τ : Tau) {m : Nat} (hm : m ≤ 1000) : ∃ (bs : List Int) (τ' : Tau), m__law_bits (SM (tp τ) M []) [.own 0, .int (m : Int)] = some (.ok (.tup (bs.map .int)) (SM (tp τ') M [])) ∧ bs.length = m ∧ ∀ x ∈ bs, x = 0 ∨ x = 1 := by
  have sm := smallI_len (show m < 100000 by omega)
  have lm : m ≤ LIM := le_LIM (by omega)
  obtain ⟨ws, τ', e, h1, h2⟩ := draws (M := M) (w := 1) (by decide) (gt := gNm 2) (fe := fCall 2 m__law_pick (fCons (fVar 0) (fCons (fC (.int 2)) (fNil)))) (lo := 0) (ρ := [some (.own 0), some (.int (m : Int)), none]) (fun i => ⟨_, rfl, fun τ => by simp [pickM τ (M := M) (m := 2) (by decide) (by decide)]⟩) m τ
  refine ⟨ws, τ', ?_, h1, fun x hx => by have := h2 x hx; omega⟩
  have hf : fin false 4 (.tup (ws.map D.int)) (SM (tp τ') M []) = some (.ok (.tup (ws.map .int)) (SM (tp τ') M [])) := fin_low (s := SM (tp τ') M []) (SM_low ⟨lowS_tp _ _, rfl⟩) (by rw [low]; exact lows_int _ _)
  simp [m__law_bits, VM.run, g__law_bits, startD, sm, fLc_ap, lm]
  rw [e]
  simp [SM_len, hf]
theorem backD_tb {ws : List Int} {n w : Nat} (hl : ws.length ≤ n) (hb : ∀ x ∈ ws, 0 ≤ x ∧ x < 2 ^ w) : backD (tb ws n w) n w = .tup (ws.map .int) := by
  have hL : lenB (tb ws n w) n = ws.length := by
    unfold lenB
    rw [tb_size hl rfl]
    omega
  unfold backD
  rw [hL, wds_tb hl hb, if_pos rfl]
theorem backD_ok (bs : List Int) {n w : Nat} (hL : lenB bs n ≤ 10) : okS 1 (backD bs n w) = true := by
  unfold backD
  split
  · exact okS_ints _ (by rw [wds_len]; exact le_LIM (by omega))
  · rfl
end LW
set_option Elab.async false
set_option maxRecDepth 100000
set_option maxHeartbeats 4000000
set_option linter.all false
set_option autoImplicit false
namespace LW
open PySem L2 VM
noncomputable abbrev bTurn : MS := fSeq (fAsg (fCB (c1 tupleD) (fCons (fLc (fRng1 (fCall 2 m__law_pick (fCons (fVar 1) (fCons (fOp addD (fVar 2) (fC (.int 1))) (fNil))))) (gNm 28) (VM.ret true) (fCall 2 m__law_pick (fCons (fVar 1) (fCons (fOp (i2 shlI) (fC (.int 1)) (fVar 3)) (fNil)))) [28]) (fNil))) (gNm 17)) (fSeq (fAsg (fLc (fRng1 (fVar 5)) (gNm 28) (VM.ret true) (fCall 2 m__law_pick (fCons (fVar 1) (fCons (fOp (i2 shlI) (fC (.int 1)) (fVar 3)) (fNil)))) [28]) (gNm 18)) (fSeq (fAsg (fOp mulU (fCB (c1 intD) (fCons (fOp geD (fCB (c1 lenD) (fCons (fVar 17) (fNil))) (fVar 4)) (fNil))) (fCall 2 m__law_pick (fCons (fVar 1) (fCons (fC (.int 2)) (fNil))))) (gNm 19)) (fSeq (fAsg (fOp mulU (fCB (c1 intD) (fCons (fOp leD (fOp addD (fCB (c1 lenD) (fCons (fVar 17) (fNil))) (fVar 5)) (fVar 2)) (fNil))) (fCall 2 m__law_pick (fCons (fVar 1) (fCons (fC (.int 2)) (fNil))))) (gNm 20)) (fSeq (fAsg (fOp addD (fSl (fVar 17) (fPart (fOp mulU (fVar 4) (fVar 19))) (VM.ret none)) (fOp mulU (fCB (c1 tupleD) (fCons (fVar 18) (fNil))) (fVar 20))) (gNm 21)) (fSeq (fAsg (fOp addD (fTup (fCons (fVar 19) (fCons (fVar 20) (fNil)))) (fCall 3 m__law_told (fCons (fVar 17) (fCons (fVar 2) (fCons (fVar 3) (fNil)))))) (gNm 22)) (fSeq (fFor (fSrc (fVar 18)) (gNm 23) (fAsg (fOp addD (fVar 22) (fCB (c1 tupleD) (fCons (fLc (fRng1 (fVar 3)) (gNm 30) (VM.ret true) (fOp andD (fOp (i2 shrI) (fVar 23) (fVar 30)) (fC (.int 1))) [30]) (fNil)))) (gNm 22))) (fSeq (fAsg (fOp ixD (fCall 3 m_net_cycle (fCons (fVar 15) (fCons (fTup (fNil)) (fCons (fVar 22) (fNil))))) (fC (.int 0))) (gNm 24)) (fSeq (fAsg (fOp addD (fTup (fCons (fCB (c1 intD) (fCons (fOp geD (fCB (c1 lenD) (fCons (fVar 17) (fNil))) (fVar 4)) (fNil))) (fCons (fCB (c1 intD) (fCons (fOp leD (fOp addD (fCB (c1 lenD) (fCons (fVar 17) (fNil))) (fVar 5)) (fVar 2)) (fNil))) (fNil)))) (fCB (c1 tupleD) (fCons (fLc (fRng1 (fVar 2)) (gNm 28) (VM.ret true) (fCB (c1 intD) (fCons (fOp eqD (fCB (c1 lenD) (fCons (fVar 17) (fNil))) (fVar 28)) (fNil))) [28]) (fNil)))) (gNm 25)) (fSeq (fIfS (fBl (fOp neD (fVar 24) (fOp addD (fCall 3 m__law_told (fCons (fVar 21) (fCons (fVar 2) (fCons (fVar 3) (fNil))))) (fVar 25)))) (fRet (fC (.bl false))) (fNx)) (fSeq (fIfS (fOrT (fBl (fOp neD (fCall 3 m_queue_bits (fCons (fVar 17) (fCons (fVar 2) (fCons (fVar 3) (fNil))))) (fCall 3 m__law_told (fCons (fVar 17) (fCons (fVar 2) (fCons (fVar 3) (fNil))))))) (fNotT (fTru (fCall 2 (m__law_same 8) (fCons (fCall 3 m_queue_of_bits (fCons (fCall 3 m__law_told (fCons (fVar 17) (fCons (fVar 2) (fCons (fVar 3) (fNil))))) (fCons (fVar 2) (fCons (fVar 3) (fNil))))) (fCons (fVar 17) (fNil))))))) (fRet (fC (.bl false))) (fNx)) (fSeq (fAsg (fCall 2 m__law_bits (fCons (fVar 1) (fCons (fOp mulU (fVar 2) (fOp addD (fC (.int 1)) (fVar 3))) (fNil)))) (gNm 26)) (fIfS (fNotT (fTru (fCall 2 (m__law_same 8) (fCons (fCall 3 m_queue_of_bits (fCons (fVar 26) (fCons (fVar 2) (fCons (fVar 3) (fNil))))) (fCons (fCall 3 m__law_back (fCons (fVar 26) (fCons (fVar 2) (fCons (fVar 3) (fNil))))) (fNil)))))) (fRet (fC (.bl false))) (fNx)))))))))))))
/-- the net tells what is due -/
def NetTells (n w r z : Nat) (nodes : List (List Int × Int)) (outs : List (Str × Int)) : Prop := ∀ (held new : List Int) (t p : Int), held.length ≤ n → (∀ x ∈ held, 0 ≤ x ∧ x < 2 ^ w) → new.length = z → (t = 0 ∨ t = 1) → (p = 0 ∨ p = 1) → (t = 1 → r ≤ held.length) → (p = 1 → held.length + z ≤ n) →
  outs.map (fun q => (vals (0 :: 1 :: (t :: p :: (tb held n w ++ rowsQ new w z))) nodes).getD q.2.toNat 0) =
    tb (putQ (takenQ held t r) p new) n w ++ ((if (r : Int) ≤ held.length then 1 else 0) :: (if (held.length : Int) + z ≤ n then 1 else 0) :: (List.range n).map fun (k : Nat) => if (held.length : Int) = (k : Int) then (1 : Int) else 0)
structure Cir (n w r z : Nat) (names : List Str) (nodes : List (List Int × Int)) (outs : List (Str × Int)) : Prop where
  n1 : 1 ≤ n
  n4 : n ≤ 4
  w1 : 1 ≤ w
  w3 : w ≤ 3
  r1 : 1 ≤ r
  r3 : r ≤ 4
  z1 : 1 ≤ z
  z3 : z ≤ 4
  nm : names.length = 2 + n + n * w + z * w
  nn : nodes.length < 50000
  no : ∀ k (hk : k < nodes.length), NodeOk (2 + (names.length : Int) + (k : Int)) nodes[k]
  ol : outs.length < 10000
  oo : ∀ p ∈ outs, 0 ≤ p.2 ∧ p.2 < 2 + (names.length : Int) + (nodes.length : Int)
  tl : NetTells n w r z nodes outs
def PTurn (M : Mkr) (fx : Rho) (n w r z : Nat) (net : D) (ρ : Rho) (s : Sto) : Prop := ∃ (τ : Tau) (x16 x17 x18 x19 x20 x21 x22 x23 x24 x25 x26 : Option D), s = SM (tp τ) M [] ∧
  ∃ a0 a6 a7 a8 a9 a10 a11 a12 a13 a14, fx = [a0, a6, a7, a8, a9, a10, a11, a12, a13, a14] ∧
  ρ = [a0, some (.own 0), some (.int n), some (.int w), some (.int r), some (.int z), a6, a7, a8, a9, a10, a11, a12, a13, a14, some net, x16, x17, x18, x19, x20, x21, x22, x23, x24, x25, x26, none, none, none, none]
theorem turn_ap {M : Mkr} {fx : Rho} {n w r z : Nat} {names : List Str} {nodes : List (List Int × Int)} {outs : List (Str × Int)} (C : Cir n w r z names nodes outs) {ρ : Rho} {s : Sto} (hp : PTurn M fx n w r z (netD names [] nodes outs) ρ s) (i : Int) :
    ∃ ρ1, gNm 16 (.int i) ρ = some ρ1 ∧ nxP (PTurn M fx n w r z (netD names [] nodes outs)) (bTurn ρ1 s) := by
  obtain ⟨τ, x16, x17, x18, x19, x20, x21, x22, x23, x24, x25, x26, rfl, a0, a6, a7, a8, a9, a10, a11, a12, a13, a14, rfl, rfl⟩ := hp
  refine ⟨_, rfl, ?_⟩
  obtain ⟨n1, n4, w1, w3, r1, r3, z1, z3, nm, nn, no, ol, oo, tl⟩ := C
  have low1 : ∀ τ, Low (SM (tp τ) M []) := fun τ => SM_low ⟨lowS_tp _ _, rfl⟩
  have sn := smallI_len (show n < 100000 by omega)
  have sw := smallI_len (show w < 100000 by omega)
  have sz := smallI_len (show z < 100000 by omega)
  have ln : n ≤ LIM := le_LIM (by omega)
  have lw : w ≤ LIM := le_LIM (by omega)
  have lz : z ≤ LIM := le_LIM (by omega)
  have p1 := pickM (M := M) τ (m := (n : Int) + 1) (by omega) (by omega)
  have q1 := dr_lo τ ((n : Int) + 1)
  have q2 := dr_hi τ (many := (n : Int) + 1) (by omega)
  generalize dr τ ((n : Int) + 1) = d1 at *
  generalize nx τ ((n : Int) + 1) = τ1 at *
  obtain ⟨h, rfl⟩ : ∃ h : Nat, d1 = (h : Int) := ⟨d1.toNat, by omega⟩
  have sh := smallI_len (show h < 100000 by omega)
  have lh : h ≤ LIM := le_LIM (by omega)
  have shw := shl_w (show w ≤ 10 by omega)
  obtain ⟨pw1, pw2⟩ := pow_w (show w ≤ 10 by omega)
  have pk := fun τ => pickM (M := M) τ (m := 2 ^ w) pw1 pw2
  have pk2 := fun τ => pickM (M := M) τ (m := 2) (by decide) (by decide)
  simp [p1, sh, fLc_ap, lh]
  generalize hX : lcL _ _ _ _ _ _ _ = X
  obtain ⟨held, τ2, rfl, hl, hb⟩ : ∃ (ws : List Int) (τ' : Tau), X = some (ws.map .int, SM (tp τ') M []) ∧ ws.length = h ∧ ∀ x ∈ ws, 0 ≤ x ∧ x < 2 ^ w := by
    subst hX
    exact draws (show w ≤ 10 by omega) (fun i => ⟨_, rfl, fun τ => by simp [shw, pk]⟩) h _
  simp [sz, lz, fLc_ap]
  generalize hX : lcL _ _ _ _ _ _ _ = X
  obtain ⟨new, τ3, rfl, hz, hnb⟩ : ∃ (ws : List Int) (τ' : Tau), X = some (ws.map .int, SM (tp τ') M []) ∧ ws.length = z ∧ ∀ x ∈ ws, 0 ≤ x ∧ x < 2 ^ w := by
    subst hX
    exact draws (show w ≤ 10 by omega) (fun i => ⟨_, rfl, fun τ => by simp [shw, pk]⟩) z _
  have d2 := dr2 τ3
  have d3 := dr2 (nx τ3 2)
  have mu : ∀ (c : Prop) [Decidable c] (d : Int), (d = 0 ∨ d = 1) → ∃ t : Int, mulI (if c then 1 else 0) d = some (.int t) ∧ (t = 0 ∨ t = 1) ∧ (t = 1 → c) := fun c _ d hd => by
    by_cases hc : c
    · refine ⟨d, ?_, hd, fun _ => hc⟩
      rw [if_pos hc, mulI_of (by simp), Int.one_mul]
    · refine ⟨0, ?_, .inl rfl, fun z => by omega⟩
      rw [if_neg hc, mulI_of (by simp), Int.zero_mul]
  obtain ⟨t, t1, t2, t3⟩ := mu (r ≤ held.length) _ d2
  obtain ⟨p, u1, u2, u3⟩ := mu ((held.length : Int) + z ≤ n) _ d3
  have k1 : mulI (r : Int) t = some (.int ((r : Int) * t)) := mulI_of ((mulOk_iff _ _).mpr (.inl (by omega)))
  have k2 : cutD (held.map D.int) (some ((r : Int) * t)) none = (takenQ held t r).map D.int := by
    unfold takenQ
    rcases t2 with rfl | rfl
    · rw [if_neg (by decide), Int.mul_zero]
      exact cutD_from held D.int 0
    · rw [if_pos rfl, Int.mul_one]
      exact cutD_from held D.int r
  have k3 : ∀ s, mulU s (.tup (new.map D.int)) (.int p) = some (.tup ((if p = 1 then new else []).map D.int)) := fun s => by
    rw [mulU_tup]
    rcases u2 with rfl | rfl
    · rw [if_pos ⟨by decide, by decide, by simp; omega⟩]; rfl
    · rw [if_pos ⟨by decide, by decide, by simp; omega⟩]; simp
  have k4 : takenQ held t r ++ (if p = 1 then new else []) = putQ (takenQ held t r) p new := by
    unfold putQ
    split
    · rfl
    · rw [List.append_nil]
  have tkl : (takenQ held t r).length ≤ held.length := by
    unfold takenQ
    split
    · rw [List.length_drop]; omega
    · exact Nat.le_refl _
  have k5 : (takenQ held t r).length + (if p = 1 then new else []).length ≤ LIM := le_LIM (by split <;> (try simp) <;> omega)
  have k5b : (putQ (takenQ held t r) p new).length ≤ 8 := by
    unfold putQ
    split
    · rw [List.length_append]; omega
    · omega
  have lt1 := fun τ => ltold_ap (low1 τ) (ws := held) (n := n) (w := w) (by omega) (by omega) (by omega) (x := .tup (held.map .int)) (by simp) (by simp)
  have tbl := tb_len held n w
  have nw : n * w ≤ 4 * 3 := Nat.mul_le_mul n4 w3
  have zw : z * w ≤ 4 * 3 := Nat.mul_le_mul z3 w3
  have k6 : (tb held n w).length + 1 + 1 ≤ LIM := le_LIM (by omega)
  have k6b : 2 + (tb held n w).length ≤ LIM := le_LIM (by omega)
  have k4m : (takenQ held t r).map D.int ++ (if p = 1 then new else []).map D.int = (putQ (takenQ held t r) p new).map D.int := by rw [← List.map_append, k4]
  simp [-mulU_tup, pk2, t1, u1, k1, k2, k3, k4m, k5, lt1, k6, k6b]
  generalize hX : forL _ _ _ _ _ _ = X
  obtain ⟨ρ', s', rfl, rfl, x, rfl⟩ : ∃ ρ' s', X = some (.nx ρ' s') ∧ s' = SM (tp (nx (nx τ3 2) 2)) M [] ∧ ∃ x, ρ' = [a0, some (.own 0), some (.int n), some (.int w), some (.int r), some (.int z), a6, a7, a8, a9, a10, a11, a12, a13, a14, some (netD names [] nodes outs), some (.int i), some (.tup (held.map .int)), some (.lst (new.map .int)), some (.int t), some (.int p),
      some (.tup ((putQ (takenQ held t r) p new).map .int)), some (.tup ((t :: p :: (tb held n w ++ rowsQ new w (new.map D.int).length)).map .int)), x, x24, x25, x26, none, none, none, none] := by
    subst hX
    refine forL_P (P := fun k ρ' s' => s' = SM (tp (nx (nx τ3 2) 2)) M [] ∧ ∃ x, ρ' = [a0, some (.own 0), some (.int n), some (.int w), some (.int r), some (.int z), a6, a7, a8, a9, a10, a11, a12, a13, a14, some (netD names [] nodes outs), some (.int i), some (.tup (held.map .int)), some (.lst (new.map .int)), some (.int t), some (.int p),
      some (.tup ((putQ (takenQ held t r) p new).map .int)), some (.tup ((t :: p :: (tb held n w ++ rowsQ new w k)).map .int)), x, x24, x25, x26, none, none, none, none]) ⟨rfl, x23, by simp [rowsQ]⟩ fun k hk ρ s hq => ?_
    obtain ⟨rfl, x, rfl⟩ := hq
    rw [List.length_map] at hk
    have hg : (new.map D.int)[k]'(by rw [List.length_map]; exact hk) = .int (new.getD k 0) := by
      rw [List.getElem_map, List.getD_eq_getElem?_getD, List.getElem?_eq_getElem hk]
      rfl
    refine ⟨_, rfl, ?_⟩
    rw [hg]
    have l1 : (tb held n w).length + (rowsQ new w k).length + 1 + 1 + w ≤ LIM := le_LIM (by
      rw [rowsQ_len]
      have : k * w ≤ 4 * 3 := Nat.mul_le_mul (by omega) w3
      omega)
    simp [-List.getD_eq_getElem?_getD, fLc_ap, sw, lw]
    rw [lcL_rng (F := fun j => .int (qbit new k j))]
    rotate_left
    · intro j hj
      exact ⟨_, rfl, rfl, by simp [-List.getD_eq_getElem?_getD, PyProof.Rows.bitAnd_m1, qbit]⟩
    simp [l1, rowsQ]
  rw [List.length_map, hz]
  have hbits : ∀ a ∈ t :: p :: (tb held n w ++ rowsQ new w z), a = 0 ∨ a = 1 := fun a ha => by
    rcases List.mem_cons.mp ha with rfl | ha
    · exact t2
    rcases List.mem_cons.mp ha with rfl | ha
    · exact u2
    rcases List.mem_append.mp ha with ha | ha
    · exact tb_bit _ _ _ a ha
    · exact rowsQ_bit _ _ _ a ha
  have bl : (t :: p :: (tb held n w ++ rowsQ new w z)).length = 2 + n + n * w + z * w := by
    rw [List.length_cons, List.length_cons, List.length_append, tb_len, rowsQ_len]
    omega
  have nc := net_cycle_ap (low1 (nx (nx τ3 2) 2)) (names := names) (nodes := nodes) (outs := outs) hbits (by omega) nn (by rw [nm, bl]) (by rw [bl, ← nm]; exact no) (by rw [bl, ← nm]; exact oo) ol
  have td := tl held new t p (by omega) hb hz t2 u2 t3 (fun e => by have := u3 e; omega)
  have nc2 : (outs.map fun q => D.int ((vals (0 :: 1 :: (t :: p :: (tb held n w ++ rowsQ new w z))) nodes).getD q.2.toNat 0)) = (tb (putQ (takenQ held t r) p new) n w ++ ((if r ≤ held.length then 1 else 0) :: (if (held.length : Int) + z ≤ n then 1 else 0) :: (List.range n).map fun (k : Nat) => if (held.length : Int) = (k : Int) then (1 : Int) else 0)).map D.int := by
    have e : (outs.map fun q => D.int ((vals (0 :: 1 :: (t :: p :: (tb held n w ++ rowsQ new w z))) nodes).getD q.2.toNat 0)) = (outs.map fun q => (vals (0 :: 1 :: (t :: p :: (tb held n w ++ rowsQ new w z))) nodes).getD q.2.toNat 0).map D.int := by
      rw [List.map_map]
      rfl
    rw [e, td]
    simp
  rw [nc2] at nc
  simp at nc
  simp [nc, fLc_ap, sn, ln]
  rw [lcL_rng (F := D.int ∘ fun (k : Nat) => if (held.length : Int) = (k : Int) then (1 : Int) else 0)]
  rotate_left
  · intro k hk
    exact ⟨_, rfl, rfl, by simp⟩
  have lt2 := fun τ => ltold_ap (low1 τ) (ws := putQ (takenQ held t r) p new) (n := n) (w := w) (by omega) (by omega) (by omega) (x := .tup ((putQ (takenQ held t r) p new).map .int)) (by simp) (by simp)
  have qb := fun τ => qbits_ap (low1 τ) (ws := held) (n := n) (w := w) (by omega) (by omega) (by omega) (x := .tup (held.map .int)) (by simp) (fun s2 k hk => by simp [-List.getD_eq_getElem?_getD, atI_nat', some_getD hk]) (fun s2 => by simp)
  have qo := fun τ => qob_ap (low1 τ) (bs := tb held n w) (n := n) (w := w) (by omega) (by omega) (tb_bit _ _ _) (tb_len _ _ _)
  rw [backD_tb (by omega) hb] at qo
  have sm := fun τ => same_refl (low1 τ) 7 (.tup (held.map .int)) (okS_succ _ _ (okS_succ _ _ (okS_succ _ _ (okS_succ _ _ (okS_succ _ _ (okS_succ _ _ (okS_ints held (le_LIM (by omega)))))))))
  have l7 : (tb (putQ (takenQ held t r) p new) n w).length + (n + 1 + 1) ≤ LIM := le_LIM (by rw [tb_len]; omega)
  have l8 : 2 + n ≤ LIM := le_LIM (by omega)
  have ne1 := fun s => neD_ints (s := s) (tb (putQ (takenQ held t r) p new) n w ++ ((if r ≤ held.length then 1 else 0) :: (if (held.length : Int) + z ≤ n then 1 else 0) :: (List.range n).map fun (k : Nat) => if (held.length : Int) = (k : Int) then (1 : Int) else 0)) (tb (putQ (takenQ held t r) p new) n w ++ ((if r ≤ held.length then 1 else 0) :: (if (held.length : Int) + z ≤ n then 1 else 0) :: (List.range n).map fun (k : Nat) => if (held.length : Int) = (k : Int) then (1 : Int) else 0))
  simp at ne1
  have ne2 := fun s => neD_ints (s := s) (tb held n w) (tb held n w)
  simp at ne2
  have m2 : mulI (n : Int) (1 + (w : Int)) = some (.int ((n + n * w : Nat) : Int)) := by
    rw [mulI_of ((mulOk_iff _ _).mpr (.inl (by omega)))]
    congr 2
    push_cast
    rw [Int.mul_add, Int.mul_one]
  obtain ⟨bs, τ4, lb, bl2, bb⟩ := lbits_ap (M := M) (nx (nx τ3 2) 2) (m := n + n * w) (by omega)
  have qo2 := qob_ap (low1 τ4) (bs := bs) (n := n) (w := w) (by omega) (by omega) bb bl2
  have ba2 := back_ap (low1 τ4) (bs := bs) (n := n) (w := w) (by omega) (by omega) bb bl2
  have hL := (lenB_le (low1 τ4) (bs := bs) (n := n) (w := w) (by omega) (by omega) bb bl2).1
  have sm2 := same_refl (low1 τ4) 7 (backD bs n w) (okS_succ _ _ (okS_succ _ _ (okS_succ _ _ (okS_succ _ _ (okS_succ _ _ (okS_succ _ _ (backD_ok bs (n := n) (w := w) (by omega))))))))
  simp [-Int.natCast_add, -Int.natCast_mul, l7, l8, lt1, lt2, qb, qo, sm, ne1, ne2, m2, lb, qo2, ba2, sm2]
  exact ⟨τ4, _, _, _, _, _, _, _, _, _, _, _, rfl, _, _, _, _, _, _, _, _, _, _, rfl, rfl⟩
end LW
set_option Elab.async false
set_option maxRecDepth 100000
set_option maxHeartbeats 4000000
set_option linter.all false
set_option autoImplicit false
namespace LW
open PySem L2 VM
/-! ### the circuit of a queue -/
def seqI (a n : Nat) : List Int := (List.range n).map fun i => ((a + i : Nat) : Int)
theorem seqI_len (a n : Nat) : (seqI a n).length = n := by simp [seqI]
theorem seqI_get {a n k : Nat} (h : k < n) : (seqI a n).getD k 0 = ((a + k : Nat) : Int) := by
  unfold seqI
  rw [List.getD_eq_getElem?_getD, List.getElem?_map, List.getElem?_range h]
  rfl
theorem seqI_mem {a n : Nat} {x : Int} (h : x ∈ seqI a n) : ∃ k, k < n ∧ x = ((a + k : Nat) : Int) := by
  obtain ⟨k, hk, rfl⟩ := List.mem_map.mp h
  exact ⟨k, List.mem_range.mp hk, rfl⟩
def rowsI (a w n : Nat) : List (List Int) := (List.range n).map fun k => seqI (a + k * w) w
theorem rowsI_len (a w n : Nat) : (rowsI a w n).length = n := by simp [rowsI]
theorem rowsI_get {a w n k : Nat} (h : k < n) : (rowsI a w n).getD k [] = seqI (a + k * w) w := by
  unfold rowsI
  rw [List.getD_eq_getElem?_getD, List.getElem?_map, List.getElem?_range h]
  rfl
theorem rowsI_mem {a w n : Nat} {r : List Int} (h : r ∈ rowsI a w n) : r.length = w ∧ ∀ x ∈ r, ∃ k, k < n * w ∧ x = ((a + k : Nat) : Int) := by
  obtain ⟨k, hk, rfl⟩ := List.mem_map.mp h
  have hk := List.mem_range.mp hk
  refine ⟨seqI_len _ _, fun x hx => ?_⟩
  obtain ⟨j, hj, rfl⟩ := seqI_mem hx
  refine ⟨k * w + j, ?_, by rw [Nat.add_assoc]⟩
  have : (k + 1) * w ≤ n * w := Nat.mul_le_mul_right w hk
  rw [Nat.succ_mul] at this
  omega
/-- the maker at the start -/
def mk0 (a : Nat) : Mkr := ⟨(a : Int), []⟩
theorem mk0_ok {a : Nat} (h : 2 ≤ a) : (mk0 a).Ok := ⟨by show (2 : Int) ≤ (a : Int); omega, fun k hk => nomatch hk⟩
theorem mk0_good {a i : Nat} (h : i < a) : Good (mk0 a) (i : Int) := ⟨by omega, by show (i : Int) < (a : Int) + ((0 : Nat) : Int); omega⟩
theorem mk0_val {a i : Nat} {bs : List Int} : val (mk0 a) bs (i : Int) = bs.getD i 0 := rfl
theorem getD_cons2 {α : Type} {x y : α} {l : List α} {i : Nat} {d : α} : (x :: y :: l).getD (2 + i) d = l.getD i d := by
  rw [List.getD_eq_getElem?_getD, List.getD_eq_getElem?_getD, Nat.add_comm]
  rfl
def bits19 (n w z : Nat) (held new : List Int) (t p : Int) : List Int := 0 :: 1 :: (t :: p :: (tb held n w ++ rowsQ new w z))
section
variable {n w z : Nat} {held new : List Int} {t p : Int}
theorem bits19_len : (bits19 n w z held new t p).length = 4 + n + n * w + z * w := by
  unfold bits19
  rw [List.length_cons, List.length_cons, List.length_cons, List.length_cons, List.length_append, tb_len, rowsQ_len]
  omega
theorem bits19_q {i : Nat} (h : i < n + n * w) : (bits19 n w z held new t p).getD (4 + i) 0 = (tb held n w).getD i 0 := by
  unfold bits19
  rw [show 4 + i = 2 + (2 + i) by omega, getD_cons2, getD_cons2]
  exact getD_app_l (by rw [tb_len]; exact h)
theorem bits19_w {k i : Nat} (hk : k < z) (hi : i < w) : (bits19 n w z held new t p).getD (4 + n + n * w + k * w + i) 0 = qbit new k i := by
  unfold bits19
  rw [show 4 + n + n * w + k * w + i = 2 + (2 + (n + n * w + (k * w + i))) by omega, getD_cons2, getD_cons2, getD_app_r (by rw [tb_len]; omega), tb_len, show n + n * w + (k * w + i) - (n + n * w) = k * w + i by omega]
  exact rowsQ_get _ _ hi hk
theorem bits19_ok (ht : t = 0 ∨ t = 1) (hp : p = 0 ∨ p = 1) : BitsOk (mk0 (4 + n + n * w + z * w)) (bits19 n w z held new t p) := by
  refine ⟨by rw [bits19_len]; rfl, rfl, rfl, fun i => ?_⟩
  by_cases h : i < (bits19 n w z held new t p).length
  · have hm := mem_getD h
    unfold bits19 at hm ⊢
    rcases List.mem_cons.mp hm with e | hm
    · exact .inl e
    rcases List.mem_cons.mp hm with e | hm
    · exact .inr e
    rcases List.mem_cons.mp hm with e | hm
    · rw [e]; exact ht
    rcases List.mem_cons.mp hm with e | hm
    · rw [e]; exact hp
    rcases List.mem_append.mp hm with hm | hm
    · exact tb_bit _ _ _ _ hm
    · exact rowsQ_bit _ _ _ _ hm
  · left
    rw [List.getD_eq_getElem?_getD, List.getElem?_eq_none (by omega)]
    rfl
theorem tells0 : Tells (mk0 (4 + n + n * w + z * w)) (bits19 n w z held new t p) (seqI 4 n) (rowsI (4 + n) w n) n w held := by
  refine ⟨fun k hk => ?_, fun k hk j hj => ?_⟩
  · rw [seqI_get hk, mk0_val, bits19_q (by omega), tb_more _ hk]
  · have h : (k + 1) * w ≤ n * w := Nat.mul_le_mul_right w hk
    rw [Nat.succ_mul] at h
    rw [rowsI_get hk, seqI_get hj, mk0_val, show 4 + n + k * w + j = 4 + (n + k * w + j) by omega, bits19_q (by omega), tb_row _ hk hj]
theorem words0 {j i : Nat} (hj : j < z) (hi : i < w) : val (mk0 (4 + n + n * w + z * w)) (bits19 n w z held new t p) (((rowsI (4 + n + n * w) w z).getD j []).getD i 0) = qbit new j i := by
  rw [rowsI_get hj, seqI_get hi, mk0_val, bits19_w hj hi]
end
theorem rows0_ok {n w z : Nat} : RowsOk (mk0 (4 + n + n * w + z * w)) n w (seqI 4 n) (rowsI (4 + n) w n) := by
  refine ⟨seqI_len _ _, rowsI_len _ _ _, fun r hr => (rowsI_mem hr).1, fun a ha => ?_, fun r hr a ha => ?_⟩
  · obtain ⟨k, hk, rfl⟩ := seqI_mem ha
    exact mk0_good (by omega)
  · obtain ⟨k, hk, rfl⟩ := (rowsI_mem hr).2 a ha
    exact mk0_good (by omega)
theorem words0_good {n w z : Nat} : ∀ r ∈ rowsI (4 + n + n * w) w z, ∀ a ∈ r, Good (mk0 (4 + n + n * w + z * w)) a := fun r hr a ha => by
  obtain ⟨k, hk, rfl⟩ := (rowsI_mem hr).2 a ha
  exact mk0_good (by omega)
/-- the row of lengths -/
theorem lens {t : SO} (ht : TOk t) {M : Mkr} (o : M.Ok) {n w : Nat} {more : List Int} {rows : List (List Int)} (R : RowsOk M n w more rows) (hn2 : n ≤ 10) (hM : M.nodes.length < 30000) {ρ : Rho} {gt : D → Rho → Option Rho} {fe : VM.M D}
    (hfe : ∀ i : Nat, i < n → ∃ ρ1, gt (.int (0 + (i : Int))) ρ = some ρ1 ∧ ∀ s, fe ρ1 s = m_is_length s [.own 1, placeD more rows, .int (i : Int)]) :
    ∃ zs M', lcL gt (VM.ret true) fe none ρ (rngD 0 n) (SM t M []) = some (zs.map .int, SM t M' []) ∧ Made M M' zs n (n * 2) (fun bs k => lenV M bs more k) := by
  have h0 : PostOk t [] := ⟨ht _, rfl⟩
  obtain ⟨ys, s', e, zs, M', rfl, rfl, md⟩ := lcL_rngP (gt := gt) (ft := VM.ret true) (fe := fe) (ρ := ρ) (lo := 0) (n := n) (s := SM t M []) (P := fun k ys s' => ∃ zs M', ys = zs.map .int ∧ s' = SM t M' [] ∧ Made M M' zs k (k * 2) (fun bs k => lenV M bs more k))
    ⟨[], M, rfl, rfl, by rw [Nat.zero_mul]; exact Made.nil o⟩ fun k hk acc s hp => by
      obtain ⟨zs, M1, rfl, rfl, md⟩ := hp
      obtain ⟨ρ1, e1, e2⟩ := hfe k hk
      have cnt := md.cnt
      obtain ⟨r, M2, le, lg⟩ := len_ap h0 (M := M1) (by omega) (more := more) (rows := rows) (c := k) (by rw [R.l1]; exact hk)
      obtain ⟨q1, q2, q3, q4, q5⟩ := lg md.ok (fun a ha => (R.gm a ha).ext md.ext)
      refine ⟨ρ1, e1, rfl, ?_⟩
      rw [e2, le, okP_ok]
      refine ⟨zs ++ [r], M2, by rw [List.map_append]; rfl, rfl, ?_⟩
      rw [Nat.succ_mul]
      refine md.snoc q1 q2 q3 q4 fun bs b => ?_
      rw [q5 bs (b.ext md.ext)]
      unfold lenV
      have gm : ∀ {q}, q < more.length → Good M (more.getD q 0) := fun hq => R.gm _ (mem_getD hq)
      have e3 : val M1 bs (more.getD k 0) = val M bs (more.getD k 0) := val_ext b md.ext (gm (by rw [R.l1]; exact hk))
      rw [e3]
      by_cases hk0 : k = 0
      · rw [if_pos hk0, if_pos hk0]
      · have e4 : val M1 bs (more.getD (k - 1) 0) = val M bs (more.getD (k - 1) 0) := val_ext b md.ext (gm (by rw [R.l1]; omega))
        rw [if_neg hk0, if_neg hk0, e4]
  exact ⟨zs, M', e, md⟩
end LW
set_option Elab.async false
set_option maxRecDepth 100000
set_option maxHeartbeats 4000000
set_option linter.all false
set_option autoImplicit false
namespace LW
open PySem L2 VM
theorem Tells.ext {M M' : Mkr} {bs more : List Int} {rows : List (List Int)} {n w : Nat} {ws : List Int} (T : Tells M bs more rows n w ws) (b : BitsOk M bs) (e : Ext M M') (R : RowsOk M n w more rows) : Tells M' bs more rows n w ws := by
  refine ⟨fun k hk => ?_, fun k hk j hj => ?_⟩
  · rw [val_ext b e (R.gm _ (mem_getD (by rw [R.l1]; exact hk)))]
    exact T.m k hk
  · have hr := mem_getR (l := rows) (k := k) (by rw [R.l2]; exact hk)
    rw [val_ext b e (R.gr _ hr _ (mem_getD (by rw [R.lw _ hr]; exact hj)))]
    exact T.r k hk j hj
theorem RowsOk.ext {M M' : Mkr} {n w : Nat} {more : List Int} {rows : List (List Int)} (R : RowsOk M n w more rows) (e : Ext M M') : RowsOk M' n w more rows :=
  ⟨R.l1, R.l2, R.lw, fun a ha => (R.gm a ha).ext e, fun r hr a ha => (R.gr r hr a ha).ext e⟩
theorem RowsOk.of {M M' : Mkr} {n w k : Nat} {ms : List Int} {rs : List (List Int)} {F : List Int → Nat → Int} {G : List Int → Nat → Nat → Int} (md : Made M M' ms n k F) (mr : MadeR M M' rs n w G) : RowsOk M' n w ms rs := ⟨md.len, mr.len, mr.lw, md.good, mr.good⟩
theorem flat_len {rs : List (List Int)} {n w : Nat} (h1 : rs.length = n) (h2 : ∀ r ∈ rs, r.length = w) : rs.flatten.length = n * w := by
  subst h1
  induction rs with
  | nil => simp
  | cons a l ih =>
    rw [List.flatten_cons, List.length_append, h2 a List.mem_cons_self, ih fun r hr => h2 r (List.mem_cons_of_mem _ hr), List.length_cons, Nat.succ_mul]
    omega
abbrev oOut (i : Int) : Str × Int := (("o" : Str), i)
theorem circ19 {t : SO} (ht : TOk t) {n w r z : Nat} (n1 : 1 ≤ n) (n4 : n ≤ 4) (w1 : 1 ≤ w) (w3 : w ≤ 3) (r1 : 1 ≤ r) (rn : r ≤ n) (z1 : 1 ≤ z) (zn : z ≤ n) :
    ∃ ms rs M1 ms2 rs2 M2, m_taken_place (SM t (mk0 (4 + n + n * w + z * w)) []) [.own 1, placeD (seqI 4 n) (rowsI (4 + n) w n), .int (r : Int), .int 2] = some (.ok (placeD ms rs) (SM t M1 [])) ∧
      m_put_place (SM t M1 []) [.own 1, placeD ms rs, .lst ((rowsI (4 + n + n * w) w z).map dSrc), .int 3] = some (.ok (placeD ms2 rs2) (SM t M2 [])) ∧
      RowsOk M2 n w ms2 rs2 ∧ M2.nodes.length < 20000 ∧ M2.Ok ∧ Ext (mk0 (4 + n + n * w + z * w)) M2 ∧
      ∀ hp M3 zs M4, (hp, M3) = M2.turned ((seqI 4 n).getD (n - z) 0) → Made M3 M4 zs n (n * 2) (fun bs k => lenV M3 bs (seqI 4 n) k) →
        (M4.fst : Int) = ((4 + n + n * w + z * w : Nat) : Int) ∧
        Cir n w r z (List.replicate (2 + n + n * w + z * w) ("i" : Str)) M4.nodes (((ms2 ++ rs2.flatten) ++ (4 + (r : Int) - 1) :: hp :: zs).map oOut) ∧
        NetOk (List.replicate (2 + n + n * w + z * w) ("i" : Str)) [] M4.nodes (((ms2 ++ rs2.flatten) ++ (4 + (r : Int) - 1) :: hp :: zs).map oOut) := by
  have nw : n * w ≤ 4 * 3 := Nat.mul_le_mul n4 w3
  have zw : z * w ≤ 4 * 3 := Nat.mul_le_mul (by omega) w3
  have o0 := mk0_ok (a := 4 + n + n * w + z * w) (by omega)
  have R0 := rows0_ok (n := n) (w := w) (z := z)
  have g2 : Good (mk0 (4 + n + n * w + z * w)) 2 := mk0_good (i := 2) (by omega)
  have g3 : Good (mk0 (4 + n + n * w + z * w)) 3 := mk0_good (i := 3) (by omega)
  obtain ⟨ms, rs, M1, e1, md1, mr1⟩ := taken_ap ht o0 g2 (rate := r) R0 n1 (by omega) (by omega) (by omega) (by show 0 < 20000; decide)
  have R1 := RowsOk.of md1 mr1
  have c1 : M1.nodes.length ≤ 100 := by
    have h := md1.cnt
    have h2 : n * (w + 1) ≤ 4 * 4 := Nat.mul_le_mul n4 (by omega)
    have h3 : (mk0 (4 + n + n * w + z * w)).nodes.length = 0 := rfl
    omega
  obtain ⟨ms2, rs2, M2, e2, md2, mr2⟩ := put_ap ht md1.ok (g3.ext md1.ext) R1 n1 (by omega) (by omega) (ws := rowsI (4 + n + n * w) w z) (fun r hr => (rowsI_mem hr).1) (fun r hr a ha => (words0_good r hr a ha).ext md1.ext) (by rw [rowsI_len]; omega) (by omega)
  have R2 := RowsOk.of md2 mr2
  have c2 : M2.nodes.length ≤ 5000 := by
    have h := md2.cnt
    omega
  have x2 := md1.ext.trans md2.ext
  refine ⟨ms, rs, M1, ms2, rs2, M2, e1, e2, R2, by omega, md2.ok, x2, fun hp M3 zs M4 h3 h4 => ?_⟩
  have gz : Good M2 ((seqI 4 n).getD (n - z) 0) := (R0.ext x2).gm _ (mem_getD (by rw [seqI_len]; omega))
  have t3 := turned_good md2.ok gz
  rw [← h3] at t3
  have x3 := x2.trans t3.ext
  have x4 := x3.trans h4.ext
  have c3 : M3.nodes.length ≤ M2.nodes.length + 1 := t3.len
  have c4 := h4.cnt
  have f4 : (M4.fst : Int) = ((4 + n + n * w + z * w : Nat) : Int) := x4.fst
  have fl := flat_len R2.l2 R2.lw
  have gall : ∀ i ∈ (ms2 ++ rs2.flatten) ++ (4 + (r : Int) - 1) :: hp :: zs, Good M4 i := fun i hi => by
    have x24 := t3.ext.trans h4.ext
    rcases List.mem_append.mp hi with hi | hi
    · rcases List.mem_append.mp hi with hi | hi
      · exact (R2.gm i hi).ext x24
      · obtain ⟨row, hr, hi⟩ := List.mem_flatten.mp hi
        exact (R2.gr row hr i hi).ext x24
    · rcases List.mem_cons.mp hi with rfl | hi
      · have := (mk0_good (a := 4 + n + n * w + z * w) (i := 4 + r - 1) (by omega)).ext x4
        rw [show ((4 + r - 1 : Nat) : Int) = 4 + (r : Int) - 1 by omega] at this
        exact this
      · rcases List.mem_cons.mp hi with rfl | hi
        · exact t3.good.ext h4.ext
        · exact h4.good i hi
  have nok : ∀ k (hk : k < M4.nodes.length), NodeOk (2 + ((List.replicate (2 + n + n * w + z * w) ("i" : Str)).length : Int) + (k : Int)) M4.nodes[k] := fun k hk => by
    have := h4.ok.nd k hk
    rw [f4] at this
    rw [List.length_replicate]
    rw [show (2 : Int) + ((2 + n + n * w + z * w : Nat) : Int) = ((4 + n + n * w + z * w : Nat) : Int) by omega]
    exact this
  have ook : ∀ p ∈ ((ms2 ++ rs2.flatten) ++ (4 + (r : Int) - 1) :: hp :: zs).map oOut, 0 ≤ p.2 ∧ p.2 < 2 + ((List.replicate (2 + n + n * w + z * w) ("i" : Str)).length : Int) + (M4.nodes.length : Int) := fun p hp' => by
    obtain ⟨i, hi, rfl⟩ := List.mem_map.mp hp'
    have := gall i hi
    unfold Good at this
    rw [f4] at this
    rw [List.length_replicate]
    show 0 ≤ i ∧ i < _
    omega
  have olen : (((ms2 ++ rs2.flatten) ++ (4 + (r : Int) - 1) :: hp :: zs).map oOut).length < 10000 := by
    rw [List.length_map, List.length_append, List.length_append, List.length_cons, List.length_cons, R2.l1, fl, h4.len]
    omega
  refine ⟨f4, ⟨n1, n4, w1, w3, r1, by omega, z1, by omega, List.length_replicate, by omega, nok, olen, ook, ?_⟩, ⟨by rw [List.length_replicate]; omega, by decide, by omega, by omega, (fun p hp => nomatch hp), ?_, ?_⟩⟩
  · intro held new t p hl hb hz ht hpp t1 p1
    have b0 := bits19_ok (n := n) (w := w) (z := z) (held := held) (new := new) ht hpp
    have T0 := tells0 (n := n) (w := w) (z := z) (held := held) (new := new) (t := t) (p := p)
    have v2 : val (mk0 (4 + n + n * w + z * w)) (bits19 n w z held new t p) 2 = t := rfl
    have v3 : val (mk0 (4 + n + n * w + z * w)) (bits19 n w z held new t p) 3 = p := rfl
    have b1 := b0.ext md1.ext
    have b2 := b0.ext x2
    have T1 := taken_tells b0 T0 hl v2 ht md1 mr1
    have hl1 : p = 1 → (takenQ held t r).length + (rowsI (4 + n + n * w) w z).length ≤ n := fun e => by
      have h := p1 e
      rw [rowsI_len]
      unfold takenQ
      split
      · rw [List.length_drop]; omega
      · exact h
    have T2 := put_tells b1 T1 hl1 (by rw [val_ext b0 md1.ext g3]; exact v3) hpp (by rw [rowsI_len]; exact hz) (fun j hj i hi => by
      rw [rowsI_len] at hj
      have hr := mem_getR (l := rowsI (4 + n + n * w) w z) (k := j) (by rw [rowsI_len]; exact hj)
      rw [val_ext b0 md1.ext (words0_good _ hr _ (mem_getD (by rw [(rowsI_mem hr).1]; exact hi)))]
      exact words0 hj hi) md2 mr2
    have T4 := T2.ext b2 (t3.ext.trans h4.ext) R2
    have key := tells_tb T4 R2.l1 R2.l2 R2.lw
    have hF : (fun q : Str × Int => (vals (0 :: 1 :: (t :: p :: (tb held n w ++ rowsQ new w z))) M4.nodes).getD q.2.toNat 0) ∘ oOut = val M4 (bits19 n w z held new t p) := rfl
    rw [List.map_map, hF, List.map_append, key, List.map_cons, List.map_cons]
    congr 1
    have T03 := T0.ext b0 x3 R0
    have e1 : val M4 (bits19 n w z held new t p) (4 + (r : Int) - 1) = if (r : Int) ≤ held.length then 1 else 0 := by
      have h := T0.m (r - 1) (by omega)
      rw [seqI_get (by omega)] at h
      rw [show 4 + (r : Int) - 1 = ((4 + (r - 1) : Nat) : Int) by omega, val_ext b0 x4 (mk0_good (by omega)), h]
      unfold qmore
      by_cases q : r ≤ held.length
      · rw [if_pos (by omega), if_pos (by omega)]
      · rw [if_neg (by omega), if_neg (by omega)]
    have e2 : val M4 (bits19 n w z held new t p) hp = if (held.length : Int) + z ≤ n then 1 else 0 := by
      have b3 := b0.ext x3
      have h := t3.val _ b2
      rw [val_ext b3 h4.ext t3.good, h, val_ext b0 x2 (R0.gm _ (mem_getD (by rw [seqI_len]; omega))), T0.m (n - z) (by omega)]
      unfold qmore
      by_cases q : held.length + z ≤ n
      · rw [if_neg (by omega), if_pos (by omega)]; rfl
      · rw [if_pos (by omega), if_neg (by omega)]; rfl
    rw [e1, e2]
    congr 2
    refine List.ext_getElem (by simp [h4.len]) fun j q1 q2 => ?_
    have hj : j < n := by simpa using q2
    have h := h4.vl _ (b0.ext x3) j hj
    rw [lenV_eq T03 hj] at h
    rw [List.getD_eq_getElem?_getD, List.getElem?_eq_getElem (by rw [h4.len]; exact hj)] at h
    simp only [Option.getD_some] at h
    rw [List.getElem_map, h, List.getElem_map, List.getElem_range]
    by_cases q : held.length = j
    · rw [if_pos q, if_pos (by omega)]
    · rw [if_neg q, if_neg (by omega)]
  · intro k hk
    have := nok k hk
    simpa using this
  · intro p hp
    have := ook p hp
    simpa using this
end LW
set_option Elab.async false
set_option maxRecDepth 100000
set_option maxHeartbeats 4000000
set_option linter.all false
set_option autoImplicit false
namespace LW
open PySem L2 VM
theorem mk_ap (τ : Tau) {a : Nat} (h : 2 ≤ a) : makeA 33 m_NodeMaker_init [tp τ] [.int (a : Int)] = some (.ok (.own 1) (SM (tp τ) (mk0 a) [])) := by
  unfold makeA
  simp [m_NodeMaker_init, VM.runA, g_NodeMaker_init, startD, setF_own, putN_cons, putN_nil, mk0, SM, valsFrom]
theorem rgA_seq {a k : Nat} (h : a + k < 100000) {i j : Int} (hi : i = (a : Int)) (hj : j = ((a + k : Nat) : Int)) : rgA i j = some ((seqI a k).map .int) := by
  subst hi hj
  rw [rgA_of (by omega) (by omega) (by omega) (by omega) (by omega)]
  rw [show (((a + k : Nat) : Int) - (a : Int)).toNat = k by omega]
  unfold rngD seqI
  rw [List.map_map]
  congr 1
theorem seqI_app (a m k : Nat) : seqI a m ++ seqI (a + m) k = seqI a (m + k) := by
  unfold seqI
  rw [List.range_add, List.map_append, List.map_map]
  congr 1
  apply List.map_congr_left
  intro i _
  show ((a + m + i : Nat) : Int) = ((a + (m + i) : Nat) : Int)
  omega
theorem rowsI_flat (a w : Nat) : ∀ n, (rowsI a w n).flatten = seqI a (n * w)
  | 0 => by simp [rowsI, seqI]
  | n + 1 => by
    have h : rowsI a w (n + 1) = rowsI a w n ++ [seqI (a + n * w) w] := by
      unfold rowsI
      rw [List.range_succ, List.map_append]
      rfl
    rw [h, List.flatten_append, rowsI_flat a w n, List.flatten_cons, List.flatten_nil, List.append_nil, seqI_app, Nat.succ_mul]
theorem neD_lints {s : Sto} (a b : List Int) : neD s (.lst (a.map D.int)) (.lst (b.map D.int)) = some (.bl (!decide (a = b))) := by
  have h : ∀ l : List Int, datD 1 (.lst (l.map D.int)) = true := fun l => by
    rw [datD, List.all_map, List.all_eq_true]
    exact fun _ _ => rfl
  rw [neD_dat (h a) (h b) (by decide) (by decide), eqv_lst, eqv_ints]
theorem law_val (ns : List Int) (hns : ns.length ≤ 63) (hbits : ∀ z ∈ ns, Builtin.Int.intBits z ≤ 1048576) : ∃ s, m_law [] [.lck (ns.map D.int)] = some (.ok (.bl true) s) := by
  obtain ⟨τ0, e0⟩ := start_ap ns
  have pk : ∀ (τ : Tau) (m : Int), 0 < m → m < 1073741824 → m__law_pick [tp τ] [.own 0, .int m] = some (.ok (.int (dr τ m)) [tp (nx τ m)]) := fun τ m h1 h2 => pick_ap h1 h2 rfl
  have p1 := pk τ0 4 (by decide) (by decide)
  have a1 := dr_lo τ0 4
  have b1 := dr_hi τ0 (many := 4) (by decide)
  generalize dr τ0 4 = d1 at *
  generalize nx τ0 4 = τ1 at *
  obtain ⟨n, hn⟩ : ∃ n : Nat, 1 + d1 = (n : Int) := ⟨(1 + d1).toNat, by omega⟩
  have p2 := pk τ1 3 (by decide) (by decide)
  have a2 := dr_lo τ1 3
  have b2 := dr_hi τ1 (many := 3) (by decide)
  generalize dr τ1 3 = d2 at *
  generalize nx τ1 3 = τ2 at *
  obtain ⟨w, hw⟩ : ∃ n : Nat, 1 + d2 = (n : Int) := ⟨(1 + d2).toNat, by omega⟩
  have hm1 : 0 < (if (n : Int) < 3 then (n : Int) else 3) := by split <;> omega
  have hm2 : (if (n : Int) < 3 then (n : Int) else 3) ≤ n ∧ (if (n : Int) < 3 then (n : Int) else 3) ≤ 3 := by split <;> omega
  generalize hm : (if (n : Int) < 3 then (n : Int) else 3) = m at *
  have p3 := pk τ2 m hm1 (by omega)
  have a3 := dr_lo τ2 m
  have b3 := dr_hi τ2 hm1
  generalize dr τ2 m = d3 at *
  generalize nx τ2 m = τ3 at *
  obtain ⟨r, hr⟩ : ∃ n : Nat, 1 + d3 = (n : Int) := ⟨(1 + d3).toNat, by omega⟩
  have p4 := pk τ3 m hm1 (by omega)
  have a4 := dr_lo τ3 m
  have b4 := dr_hi τ3 hm1
  generalize dr τ3 m = d4 at *
  generalize nx τ3 m = τ4 at *
  obtain ⟨z, hz⟩ : ∃ n : Nat, 1 + d4 = (n : Int) := ⟨(1 + d4).toNat, by omega⟩
  have nw : n * w ≤ 4 * 3 := Nat.mul_le_mul (by omega) (by omega)
  have zw : z * w ≤ 4 * 3 := Nat.mul_le_mul (by omega) (by omega)
  have sn := smallI_len (show n < 100000 by omega)
  have sw := smallI_len (show w < 100000 by omega)
  have sz := smallI_len (show z < 100000 by omega)
  have ln : n ≤ LIM := le_LIM (by omega)
  have lw : w ≤ LIM := le_LIM (by omega)
  have lz : z ≤ LIM := le_LIM (by omega)
  have mul : ∀ a b : Nat, a ≤ 100 → mulI (a : Int) (b : Int) = some (.int ((a : Int) * b)) := fun a b h => mulI_of ((mulOk_iff _ _).mpr (.inl (by omega)))
  have m1 := mul n w (by omega)
  have m2 := mul z w (by omega)
  have g1 := rgA_seq (a := 4) (k := n) (by omega) (i := 4) (j := 4 + (n : Int)) rfl (by omega)
  simp [m_law, VM.run, g_law, startD, e0, p1, p2, p3, p4, hn, hw, hm, hr, hz, fLc_ap, g1, sn, ln]
  rw [lcL_rng (F := fun k => dSrc (seqI (4 + n + k * w) w))]
  rotate_left
  · intro k hk
    have kw : k * w ≤ 4 * 3 := Nat.mul_le_mul (by omega) (by omega)
    have m3 := mul k w (by omega)
    have g2 := rgA_seq (a := 4 + n + k * w) (k := w) (by omega) (i := 4 + (n : Int) + (k : Int) * w) (j := 4 + (n : Int) + (k : Int) * w + w) (by push_cast; rfl) (by push_cast; rfl)
    exact ⟨_, rfl, rfl, by simp [m3, g2, dSrc]⟩
  simp [m1, sz, fLc_ap, lz]
  rw [lcL_rng (F := fun k => dSrc (seqI (4 + n + n * w + k * w) w))]
  rotate_left
  · intro k hk
    have kw : k * w ≤ 4 * 3 := Nat.mul_le_mul (by omega) (by omega)
    have m3 := mul k w (by omega)
    have g2 := rgA_seq (a := 4 + n + n * w + k * w) (k := w) (by omega) (i := 4 + (n : Int) + (n : Int) * w + (k : Int) * w) (j := 4 + (n : Int) + (n : Int) * w + (k : Int) * w + w) (by push_cast; rfl) (by push_cast; rfl)
    exact ⟨_, rfl, rfl, by simp [m3, g2, dSrc]⟩
  rw [show (List.range n).map (fun k => dSrc (seqI (4 + n + k * w) w)) = (rowsI (4 + n) w n).map dSrc by unfold rowsI; rw [List.map_map]; rfl]
  rw [show (List.range z).map (fun k => dSrc (seqI (4 + n + n * w + k * w) w)) = (rowsI (4 + n + n * w) w z).map dSrc by unfold rowsI; rw [List.map_map]; rfl]
  have mk := mk_ap τ4 (a := 4 + n + n * w + z * w) (by omega)
  rw [show ((4 + n + n * w + z * w : Nat) : Int) = 4 + (n : Int) + (n : Int) * w + (z : Int) * w by push_cast; rfl] at mk
  have low1 : ∀ τ M, Low (SM (tp τ) M []) := fun τ M => SM_low ⟨lowS_tp _ _, rfl⟩
  have pm := place_make (low1 τ4 (mk0 (4 + n + n * w + z * w))) (x := .tup ((seqI 4 n).map .int)) (y := .lst ((rowsI (4 + n) w n).map dSrc)) (more := seqI 4 n) (rows := rowsI (4 + n) w n) rfl rfl
  obtain ⟨ms, rs, M1, ms2, rs2, M2, e1, e2, R2, c2, ok2, x2, fin2⟩ := circ19 (t := tp τ4) (fun n => lowS_tp _ _) (n := n) (w := w) (r := r) (z := z) (by omega) (by omega) (by omega) (by omega) (by omega) (by omega) (by omega) (by omega)
  have fl := flat_len R2.l2 R2.lw
  have so := sources_ap (low1 τ4 M2) (more := ms2) (rows := rs2) (by rw [R2.l1]; omega) (by rw [R2.l2]; omega) (by omega) (fun r hr => by rw [R2.lw r hr]; omega)
  have hw' := hw_ap (low1 τ4 M2) (more := seqI 4 n) (rows := rowsI (4 + n) w n) (c := (r : Int)) (by omega) (by rw [seqI_len]; omega)
  rw [show (seqI 4 n).getD ((r : Int) - 1).toNat 0 = 4 + (r : Int) - 1 by rw [seqI_get (by omega)]; omega] at hw'
  have hp' := hp_ap (t := tp τ4) (M := M2) (post := []) ⟨lowS_tp _ _, rfl⟩ (by omega) (more := seqI 4 n) (rows := rowsI (4 + n) w n) (c := (z : Int)) (by omega) (by rw [seqI_len]; omega)
  rw [show (((seqI 4 n).length : Int) - (z : Int)).toNat = n - z by rw [seqI_len]; omega] at hp'
  obtain ⟨L, hL⟩ : ∃ L, ms2 ++ rs2.flatten = L := ⟨_, rfl⟩
  have hLl : L.length ≤ 16 := by rw [← hL, List.length_append, R2.l1, fl]; omega
  rw [hL] at so fin2
  have R0 := (rows0_ok (n := n) (w := w) (z := z)).ext x2
  have t3 := turned_good ok2 (R0.gm _ (mem_getD (k := n - z) (by rw [seqI_len]; omega)))
  generalize ht3 : M2.turned ((seqI 4 n).getD (n - z) 0) = hpM at *
  obtain ⟨hp, M3⟩ := hpM
  dsimp only at hp'
  have l1 : L.length + (1 + 1) ≤ LIM := le_LIM (by omega)
  have l1' : L.length + 2 ≤ LIM := le_LIM (by omega)
  have l0 : 2 ≤ LIM := le_LIM (by omega)
  simp [m2, mk, pm, e1, e2, so, hw', hp', sn, fLc_ap, ln, l1, l1', l0]
  have c3 := t3.len
  have q1 : Ext M2 M3 := t3.ext
  have q2 : M3.Ok := t3.ok
  obtain ⟨zs, M4, hX, md⟩ := lens (t := tp τ4) (gt := gNm 28) (fe := fCall 3 m_is_length (fCons (fVar 11) (fCons (fVar 12) (fCons (fVar 28) fNil)))) (fun n => lowS_tp _ _) q2 (R0.ext q1) (by omega) (by have : M3.nodes.length ≤ M2.nodes.length + 1 := c3; omega)
    (ρ := [some (.lck (ns.map .int)), some (.own 0), some (.int n), some (.int w), some (.int r), some (.int z), some (.int 4), some (.tup ((seqI 4 n).map .int)), some (.lst ((rowsI (4 + n) w n).map dSrc)), some (.int (4 + (n : Int) + (n : Int) * w)), some (.lst ((rowsI (4 + n + n * w) w z).map dSrc)), some (.own 1), some (placeD (seqI 4 n) (rowsI (4 + n) w n)), some (placeD ms2 rs2), none, none, none, none, none, none, none, none, none, none, none, none, none, none, none, none, none])
    (fun i hi => ⟨_, rfl, fun s => by simp⟩)
  rw [hX]
  obtain ⟨f4, C, NO⟩ := fin2 hp M3 zs M4 rfl md
  obtain ⟨O, hO⟩ : ∃ O, L ++ (4 + (r : Int) - 1) :: hp :: zs = O := ⟨_, rfl⟩
  have hOl : O.length = L.length + 2 + zs.length := by rw [← hO, List.length_append, List.length_cons, List.length_cons]; omega
  have hz' := md.len
  have lO : O.length ≤ LIM := le_LIM (by omega)
  have eO : L.map D.int ++ D.int (4 + (r : Int) - 1) :: D.int hp :: zs.map D.int = O.map D.int := by rw [← hO]; simp
  rw [hO] at C NO
  have lO2 := lO
  rw [hOl] at lO
  obtain ⟨names, hN⟩ : ∃ names : List Str, List.replicate (2 + n + n * w + z * w) ("i" : Str) = names := ⟨_, rfl⟩
  rw [hN] at C NO
  have mn : ∀ s, mulU s (.lst [.str ("i" : Str)]) (.int (4 + (n : Int) + (n : Int) * w + (z : Int) * w - 2)) = some (.lst (names.map .str)) := fun s => by
    have e : (4 + (n : Int) + (n : Int) * w + (z : Int) * w - 2).toNat = 2 + n + n * w + z * w := by
      rw [show 4 + (n : Int) + (n : Int) * w + (z : Int) * w - 2 = ((2 + n + n * w + z * w : Nat) : Int) by push_cast; omega]
      exact Int.toNat_natCast _
    rw [mulU_lst, e, if_pos ⟨smallI_of (by have : 0 ≤ (n : Int) * w := Int.mul_nonneg (by omega) (by omega); have : 0 ≤ (z : Int) * w := Int.mul_nonneg (by omega) (by omega); omega) (by omega), le_LIM (by simp; omega)⟩, ← hN]
    simp
  have nl : insO (SM (tp τ4) M4 [])[1]? = some (33, [39, 44, 45], [.int M4.fst, .own 2, .own 3]) := rfl
  have nl2 : lstO (SM (tp τ4) M4 [])[2]? = some (M4.nodes.map dNode) := rfl
  have l2 : 2 ≤ LIM := le_LIM (by omega)
  simp [-mulU_lst, lO, lO2, m2, eO, mn, nl, nl2, getN_cons, fLc_ap]
  rw [lcL_ml (F := dOut ∘ oOut)]
  rotate_left
  · intro i hi
    exact ⟨_, rfl, rfl, by simp [dOut, l2]⟩
  have nm := net_make (low1 τ4 M4) NO
  simp only [List.map_nil, List.map_map] at nm
  have ro := room_ap (low1 τ4 M4) (more := seqI 4 n) (rows := rowsI (4 + n) w n)
  rw [seqI_len] at ro
  have wi : m_QueuePlace_width (SM (tp τ4) M4 []) [placeD (seqI 4 n) (rowsI (4 + n) w n)] = some (.ok (.int (w : Int)) (SM (tp τ4) M4 [])) := by
    cases hR : rowsI (4 + n) w n with
    | nil => have := rowsI_len (4 + n) w n; rw [hR] at this; simp at this; omega
    | cons a l =>
      have := width_ap (low1 τ4 M4) (more := seqI 4 n) (rows := a :: l) (r := a) (rs := l) rfl
      rw [(rowsI_mem (a := 4 + n) (w := w) (n := n) (r := a) (by rw [hR]; exact List.mem_cons_self)).1] at this
      exact this
  have fl2 : (rowsI (4 + n) w n).flatten.length = n * w := by rw [rowsI_flat, seqI_len]
  have so2 := sources_ap (low1 τ4 M4) (more := seqI 4 n) (rows := rowsI (4 + n) w n) (by rw [seqI_len]; omega) (by rw [rowsI_len]; omega) (by omega) (fun r hr => by rw [(rowsI_mem hr).1]; omega)
  rw [rowsI_flat, seqI_app] at so2
  have g4 := rgA_seq (a := 4) (k := n + n * w) (by omega) (i := 4) (j := 4 + (n : Int) + (n : Int) * w) rfl (by push_cast; omega)
  have pp : ∀ s, insD s (placeD (seqI 4 n) (rowsI (4 + n) w n)) = some (38, [53, 54], [.tup ((seqI 4 n).map .int), .tup ((rowsI (4 + n) w n).map dSrc)]) := fun _ => rfl
  have sm14 : smallI 14 = true := smallI_of (by decide) (by decide)
  simp [nm, ro, wi, so2, g4, neD_lints, pp, sm14]
  generalize hX : forL _ _ _ _ _ _ = X
  obtain ⟨ρ', s', rfl, τ5, x16, x17, x18, x19, x20, x21, x22, x23, x24, x25, x26, rfl, a0, a6, a7, a8, a9, a10, a11, a12, a13, a14, _, rfl⟩ : ∃ ρ' s', X = some (.nx ρ' s') ∧ PTurn M4 [some (.lck (ns.map .int)), some (.int 4), some (.tup ((seqI 4 n).map .int)), some (.lst ((rowsI (4 + n) w n).map dSrc)), some (.int (4 + (n : Int) + (n : Int) * w)), some (.lst ((rowsI (4 + n + n * w) w z).map dSrc)), some (.own 1), some (placeD (seqI 4 n) (rowsI (4 + n) w n)), some (placeD ms2 rs2), some (.lst (O.map .int))] n w r z (netD names [] M4.nodes (O.map oOut)) ρ' s' := by
    subst hX
    refine forL_rngP (P := fun _ => PTurn M4 _ n w r z (netD names [] M4.nodes (O.map oOut))) ?_ fun i hi ρ s hp => ?_
    · exact ⟨τ4, none, none, none, none, none, none, none, none, none, none, none, rfl, _, _, _, _, _, _, _, _, _, _, rfl, rfl⟩
    · exact turn_ap C hp _
  simp [-addD_str, fLc_ap, sn, ln]
  rw [lcL_rng (F := fun k => .str (nmA k))]
  rotate_left
  · intro k hk
    exact ⟨_, rfl, rfl, by simp [-addD_str, (istr_s (show k ≤ 10 by omega)).1, nameA_ap (s := SM (tp τ5) M4 []) (show k ≤ 10 by omega)]⟩
  simp [-addD_str, sn]
  have lowE := low1 τ5 M4
  generalize hX : forL _ _ _ _ _ _ = X
  obtain ⟨ρ', s', rfl, rfl, x, rfl⟩ : ∃ ρ' s', X = some (.nx ρ' s') ∧ s' = SM (tp τ5) M4 [] ∧ ∃ x, ρ' = [a0, some (.own 0), some (.int n), some (.int w), some (.int r), some (.int z), a6, a7, a8, a9, a10, a11, a12, a13, a14, some (netD names [] M4.nodes (O.map oOut)), x16, x17, x18, x19, x20, x21, x22, x23, x24, x25, x26, some (.lst (((List.range n).map nmA ++ nmR w n).map .str)), x, none, none] := by
    subst hX
    refine forL_rngP (P := fun k ρ' s' => s' = SM (tp τ5) M4 [] ∧ ∃ x, ρ' = [a0, some (.own 0), some (.int n), some (.int w), some (.int r), some (.int z), a6, a7, a8, a9, a10, a11, a12, a13, a14, some (netD names [] M4.nodes (O.map oOut)), x16, x17, x18, x19, x20, x21, x22, x23, x24, x25, x26, some (.lst (((List.range n).map nmA ++ nmR w k).map .str)), x, none, none]) ⟨rfl, none, ?_⟩ fun k hk ρ s hp => ?_
    · simp [nmR]
    · obtain ⟨rfl, x, rfl⟩ := hp
      refine ⟨_, rfl, ?_⟩
      have hk2 : k ≤ 10 := by omega
      have l3 : n + (nmR w k).length + w ≤ LIM := le_LIM (by
        rw [nmR_len]
        have : k * w ≤ 4 * 3 := Nat.mul_le_mul (by omega) (by omega)
        omega)
      simp [-addD_str, fLc_ap, sw, lw]
      rw [lcL_rng (F := D.str ∘ nmB k)]
      rotate_left
      · intro j hj
        have hj2 : j ≤ 10 := by omega
        obtain ⟨a, b, e1, e2, e3⟩ := nameB_ap (s := SM (tp τ5) M4 []) hk2 hj2
        exact ⟨_, rfl, rfl, by simp [-addD_str, (istr_s hk2).1, (istr_s hj2).1, e1, e2, e3]⟩
      simp [l3, nmR]
  have na := names_ap lowE (n := n) (w := w) (by omega) (by omega)
  have dt := nmL_ok (n := n) (w := w) (by omega) (by omega)
  have eq1 : eqD (SM (tp τ5) M4 []) (.lst ((nmL n w).map .str)) (.lst ((nmL n w).map .str)) = some (.bl true) := by rw [eqD_dat dt dt (by decide) (by decide), eqv_refl dt]
  have ff : fin false 0 (.bl true) (SM (tp τ5) M4 []) = some (.ok (.bl true) []) := fin_app (s := []) (t := SM (tp τ5) M4 []) rfl rfl
  rw [show (List.range n).map nmA ++ nmR w n = nmL n w from rfl]
  simp [na, eq1, ff]
end LW
namespace LW
end LW
set_option Elab.async false
set_option maxRecDepth 100000
set_option maxHeartbeats 4000000
set_option linter.all false
set_option autoImplicit false
namespace LW
open PySem L2 VM VE
def top (i : Nat) : Stmt := PySem.Challenge.pw_citywright_k19_whole_queues_as_circuits.main.body.getD i (.Pass ⟨0, 0, 0, 0⟩)
abbrev s__law_start : Stmt := top 35
abbrev N__law_start : List Str := ["script"]
abbrev s_NodeMaker_init : Stmt := inClass (top 33) 0
abbrev N_NodeMaker_init : List Str := ["self", "first"]
abbrev s_QueuePlace_init : Stmt := inClass (top 2) 0
abbrev N_QueuePlace_init : List Str := ["self", "more", "rows"]
abbrev s_QueuePlace_room : Stmt := inClass (top 2) 1
abbrev N_QueuePlace_room : List Str := ["self"]
abbrev s_NodeMaker_node : Stmt := inClass (top 33) 1
abbrev N_NodeMaker_node : List Str := ["self", "sources", "table", "key"]
abbrev s_NodeMaker_pick : Stmt := inClass (top 33) 6
abbrev N_NodeMaker_pick : List Str := ["self", "test", "one", "other"]
abbrev s_NodeMaker_both : Stmt := inClass (top 33) 3
abbrev N_NodeMaker_both : List Str := ["self", "one", "other"]
abbrev s_NodeMaker_turned : Stmt := inClass (top 33) 2
abbrev N_NodeMaker_turned : List Str := ["self", "one"]
abbrev s_is_length : Stmt := top 7
abbrev N_is_length : List Str := ["maker", "place", "count", "ends"]
abbrev s_NodeMaker_either : Stmt := inClass (top 33) 4
abbrev N_NodeMaker_either : List Str := ["self", "one", "other"]
abbrev s_QueuePlace_width : Stmt := inClass (top 2) 2
abbrev N_QueuePlace_width : List Str := ["self"]
abbrev s_put_place : Stmt := top 6
abbrev N_put_place : List Str := ["maker", "place", "words", "puts", "size", "rate", "more", "rows", "k", "row", "j", "here", "i"]
abbrev s_check_net_rows : Stmt := top 25
abbrev N_check_net_rows : List Str := ["kind", "rows", "is_right", "k"]
abbrev s_is_count : Stmt := top 16
abbrev N_is_count : List Str := ["value"]
abbrev s_is_word : Stmt := top 17
abbrev N_is_word : List Str := ["value", "width"]
abbrev s_is_net_source : Stmt := top 26
abbrev N_is_net_source : List Str := ["value", "limit"]
abbrev s_is_net_flop : Stmt := top 27
abbrev N_is_net_flop : List Str := ["value", "limit"]
abbrev s_is_net_node : Stmt := top 28
abbrev N_is_net_node : List Str := ["value", "own", "one"]
abbrev s_is_net_output : Stmt := top 29
abbrev N_is_net_output : List Str := ["value", "limit"]
abbrev s_Net_init : Stmt := inClass (top 24) 0
abbrev N_Net_init : List Str := ["self", "inputs", "flops", "nodes", "outputs", "kind", "rows", "first", "whole", "k", "row"]
abbrev s__law_pick : Stmt := top 36
abbrev N__law_pick : List Str := ["state", "limit", "cell", "drawn"]
abbrev s_taken_place : Stmt := top 5
abbrev N_taken_place : List Str := ["maker", "place", "rate", "takes", "size", "more", "rows", "k", "there", "row", "j"]
abbrev s__law_bits : Stmt := top 38
abbrev N__law_bits : List Str := ["state", "size", "k"]
abbrev s_queue_names : Stmt := top 11
abbrev N_queue_names : List Str := ["name", "room", "width", "found", "k", "j"]
abbrev s_queue_sources : Stmt := top 8
abbrev N_queue_sources : List Str := ["place", "row", "one"]
abbrev s__law_told : Stmt := top 39
abbrev N__law_told : List Str := ["words", "room", "width", "found", "k", "word", "j"]
abbrev s_node_told : Stmt := top 30
abbrev N_node_told : List Str := ["node", "values", "row", "j"]
abbrev s_net_values : Stmt := top 31
abbrev N_net_values : List Str := ["net", "state", "inputs", "found", "node"]
abbrev s_is_bits : Stmt := top 18
abbrev N_is_bits : List Str := ["value", "size", "one"]
abbrev s_net_cycle : Stmt := top 32
abbrev N_net_cycle : List Str := ["net", "state", "inputs", "told", "name", "one", "start"]
abbrev s__law_same : Stmt := top 37
abbrev N__law_same : List Str := ["told", "due", "k"]
abbrev s_has_words : Stmt := top 3
abbrev N_has_words : List Str := ["place", "count"]
abbrev s_has_place_for : Stmt := top 4
abbrev N_has_place_for : List Str := ["maker", "place", "count"]
abbrev s_queue_bits : Stmt := top 9
abbrev N_queue_bits : List Str := ["words", "room", "width", "found", "k", "word", "j"]
abbrev s_queue_of_bits : Stmt := top 10
abbrev N_queue_of_bits : List Str := ["bits", "room", "width", "length", "words", "k", "at", "j"]
abbrev s__law_back : Stmt := top 40
abbrev N__law_back : List Str := ["bits", "room", "width", "size", "words", "k", "j"]
abbrev s_law : Stmt := top 41
abbrev N_law : List Str := ["script", "state", "room", "width", "rate", "size", "first", "more", "rows", "at", "words", "maker", "place", "behind", "outs", "net", "turn", "held", "new", "takes", "puts", "due", "bits", "word", "told", "more_told", "drawn", "names", "k", "one", "j"]
abbrev s_CityError_init : Stmt := inClass (top 13) 0
abbrev s_InvalidNet_init : Stmt := inClass (top 14) 0
structure Adr where
  C_QueuePlace : Addr
  C_CityError : Addr
  C_InvalidNet : Addr
  C_Net : Addr
  C_NodeMaker : Addr
  e_CityError : Addr
  cc_CityError : Addr
  co_CityError : Addr
  e_InvalidNet : Addr
  cc_InvalidNet : Addr
  co_InvalidNet : Addr
  f__law_start : Addr
  fd__law_start : FuncData
  f_NodeMaker_init : Addr
  fd_NodeMaker_init : FuncData
  f_QueuePlace_init : Addr
  fd_QueuePlace_init : FuncData
  f_QueuePlace_room : Addr
  fd_QueuePlace_room : FuncData
  f_NodeMaker_node : Addr
  fd_NodeMaker_node : FuncData
  f_NodeMaker_pick : Addr
  fd_NodeMaker_pick : FuncData
  f_NodeMaker_both : Addr
  fd_NodeMaker_both : FuncData
  f_NodeMaker_turned : Addr
  fd_NodeMaker_turned : FuncData
  f_is_length : Addr
  fd_is_length : FuncData
  f_NodeMaker_either : Addr
  fd_NodeMaker_either : FuncData
  f_QueuePlace_width : Addr
  fd_QueuePlace_width : FuncData
  f_put_place : Addr
  fd_put_place : FuncData
  f_check_net_rows : Addr
  fd_check_net_rows : FuncData
  f_is_count : Addr
  fd_is_count : FuncData
  f_is_word : Addr
  fd_is_word : FuncData
  f_is_net_source : Addr
  fd_is_net_source : FuncData
  f_is_net_flop : Addr
  fd_is_net_flop : FuncData
  f_is_net_node : Addr
  fd_is_net_node : FuncData
  f_is_net_output : Addr
  fd_is_net_output : FuncData
  f_Net_init : Addr
  fd_Net_init : FuncData
  f__law_pick : Addr
  fd__law_pick : FuncData
  f_taken_place : Addr
  fd_taken_place : FuncData
  f__law_bits : Addr
  fd__law_bits : FuncData
  f_queue_names : Addr
  fd_queue_names : FuncData
  f_queue_sources : Addr
  fd_queue_sources : FuncData
  f__law_told : Addr
  fd__law_told : FuncData
  f_node_told : Addr
  fd_node_told : FuncData
  f_net_values : Addr
  fd_net_values : FuncData
  f_is_bits : Addr
  fd_is_bits : FuncData
  f_net_cycle : Addr
  fd_net_cycle : FuncData
  f__law_same : Addr
  fd__law_same : FuncData
  f_has_words : Addr
  fd_has_words : FuncData
  f_has_place_for : Addr
  fd_has_place_for : FuncData
  f_queue_bits : Addr
  fd_queue_bits : FuncData
  f_queue_of_bits : Addr
  fd_queue_of_bits : FuncData
  f__law_back : Addr
  fd__law_back : FuncData
  f_law : Addr
  fd_law : FuncData
  co_Net_init : Addr
  ta_Net_init : Addr
  t_AND2 : Tok
  t_OR2 : Tok
  t_NOT1 : Tok
  t_PICK3 : Tok
def Adr.cs (a : Adr) : List (Addr × Addr) := [(a.co_Net_init, a.ta_Net_init)]
def Adr.tabs (a : Adr) : List (Addr × Str) := [(a.ta_Net_init, ("Net.__init__" : Str) ++ ".<locals>." ++ "<lambda>")]
def flds : List Str := [Str.ofString "blocks", Str.ofString "lanes", Str.ofString "joints", Str.ofString "ins", Str.ofString "outs", Str.ofString "cells", Str.ofString "joins", Str.ofString "flow", Str.ofString "city", Str.ofString "state", Str.ofString "broken", Str.ofString "times", Str.ofString "plan", Str.ofString "bits", Str.ofString "done", Str.ofString "offers", Str.ofString "readies", Str.ofString "places", Str.ofString "widths", Str.ofString "rooms", Str.ofString "inputs", Str.ofString "outputs", Str.ofString "order", Str.ofString "net", Str.ofString "rings", Str.ofString "inner", Str.ofString "outer", Str.ofString "names", Str.ofString "at", Str.ofString "maker", Str.ofString "queues", Str.ofString "held", Str.ofString "meaning", Str.ofString "rule", Str.ofString "name", Str.ofString "types", Str.ofString "channels", Str.ofString "workers", Str.ofString "thens", Str.ofString "first", Str.ofString "edges", Str.ofString "flops", Str.ofString "deep", Str.ofString "then", Str.ofString "nodes", Str.ofString "met", Str.ofString "tokens", Str.ofString "text", Str.ofString "period", Str.ofString "cell", Str.ofString "step", Str.ofString "setup", Str.ofString "tellers", Str.ofString "more", Str.ofString "rows", Str.ofString "body", Str.ofString "roads", Str.ofString "plans", Str.ofString "fabrics", Str.ofString "states", Str.ofString "last", Str.ofString "changed", Str.ofString "keeps", Str.ofString "stores", Str.ofString "steps", Str.ofString "takes", Str.ofString "puts"]
theorem flds_nd : flds.Nodup := by decide +kernel
def kt (K : PySem.W.Frag) (P : Program) (w : World) (a : Adr) : Kt := ⟨K, fun n => match n with
  | 38 => a.C_QueuePlace
  | 0 => a.C_CityError
  | 6 => a.C_InvalidNet
  | 32 => a.C_Net
  | 33 => a.C_NodeMaker
  | _ => 0, flds, nms, flds_nd, P, w, a.tabs⟩
structure Txt (K : PySem.W.Frag) (P : Program) (mg : Str → Option Value) (a : Adr) : Prop where
  n_tuple : mg "tuple" = none
  n_len : mg "len" = none
  n_range : mg "range" = none
  n_min : mg "min" = none
  n_isinstance : mg "isinstance" = none
  n_int : mg "int" = none
  n_bool : mg "bool" = none
  n_str : mg "str" = none
  n_all : mg "all" = none
  n_abs : mg "abs" = none
  n_list : mg "list" = none
  n_sum : mg "sum" = none
  c_AND2 : mg "AND2" = some (.int 8 a.t_AND2)
  c_OR2 : mg "OR2" = some (.int 14 a.t_OR2)
  c_NOT1 : mg "NOT1" = some (.int 1 a.t_NOT1)
  c_PICK3 : mg "PICK3" = some (.int 216 a.t_PICK3)
  a_QueuePlace : mg "QueuePlace" = some (.ref a.C_QueuePlace)
  a_CityError : mg "CityError" = some (.ref a.C_CityError)
  a_InvalidNet : mg "InvalidNet" = some (.ref a.C_InvalidNet)
  a_Net : mg "Net" = some (.ref a.C_Net)
  a_NodeMaker : mg "NodeMaker" = some (.ref a.C_NodeMaker)
  E_CityError : ErrI K P mg "CityError" "CityError.__init__" ⟨64, 17, 64, 21⟩ ⟨64, 23, 64, 28⟩ (defBody s_CityError_init) a.e_CityError a.C_CityError a.cc_CityError a.co_CityError
  sv_CityError : SupC K a.C_CityError a.C_CityError (.builtin "ValueError.__init__")
  E_InvalidNet : ErrI K P mg "InvalidNet" "InvalidNet.__init__" ⟨70, 17, 70, 21⟩ ⟨70, 23, 70, 28⟩ (defBody s_InvalidNet_init) a.e_InvalidNet a.C_InvalidNet a.cc_InvalidNet a.co_InvalidNet
  so_InvalidNet : SupC K a.C_InvalidNet a.C_InvalidNet (.ref a.e_CityError)
  sv_InvalidNet : SupC K a.C_InvalidNet a.C_CityError (.builtin "ValueError.__init__")
  in_QueuePlace : insB K a.C_QueuePlace = true
  no_QueuePlace : noB K a.C_QueuePlace ["more", "rows"] = true
  mk_QueuePlace : Mk K a.C_QueuePlace a.f_QueuePlace_init
  in_Net : insB K a.C_Net = true
  no_Net : noB K a.C_Net ["inputs", "flops", "nodes", "outputs"] = true
  mk_Net : Mk K a.C_Net a.f_Net_init
  in_NodeMaker : insB K a.C_NodeMaker = true
  no_NodeMaker : noB K a.C_NodeMaker ["first", "nodes", "met"] = true
  mk_NodeMaker : Mk K a.C_NodeMaker a.f_NodeMaker_init
  m__law_start : mg "_law_start" = some (.ref a.f__law_start)
  F__law_start : Fun K "_law_start" "_law_start" s__law_start a.f__law_start a.fd__law_start
  b__law_start : Binds K a.fd__law_start ["script"] []
  me_NodeMaker_init : Meth K a.C_NodeMaker "__init__" a.f_NodeMaker_init
  F_NodeMaker_init : Fun K "__init__" "NodeMaker.__init__" s_NodeMaker_init a.f_NodeMaker_init a.fd_NodeMaker_init
  b_NodeMaker_init : Binds K a.fd_NodeMaker_init ["self", "first"] []
  me_QueuePlace_init : Meth K a.C_QueuePlace "__init__" a.f_QueuePlace_init
  F_QueuePlace_init : Fun K "__init__" "QueuePlace.__init__" s_QueuePlace_init a.f_QueuePlace_init a.fd_QueuePlace_init
  b_QueuePlace_init : Binds K a.fd_QueuePlace_init ["self", "more", "rows"] []
  me_QueuePlace_room : Meth K a.C_QueuePlace "room" a.f_QueuePlace_room
  F_QueuePlace_room : Fun K "room" "QueuePlace.room" s_QueuePlace_room a.f_QueuePlace_room a.fd_QueuePlace_room
  b_QueuePlace_room : Binds K a.fd_QueuePlace_room ["self"] []
  me_NodeMaker_node : Meth K a.C_NodeMaker "node" a.f_NodeMaker_node
  F_NodeMaker_node : Fun K "node" "NodeMaker.node" s_NodeMaker_node a.f_NodeMaker_node a.fd_NodeMaker_node
  b_NodeMaker_node : Binds K a.fd_NodeMaker_node ["self", "sources", "table"] []
  me_NodeMaker_pick : Meth K a.C_NodeMaker "pick" a.f_NodeMaker_pick
  F_NodeMaker_pick : Fun K "pick" "NodeMaker.pick" s_NodeMaker_pick a.f_NodeMaker_pick a.fd_NodeMaker_pick
  b_NodeMaker_pick : Binds K a.fd_NodeMaker_pick ["self", "test", "one", "other"] []
  me_NodeMaker_both : Meth K a.C_NodeMaker "both" a.f_NodeMaker_both
  F_NodeMaker_both : Fun K "both" "NodeMaker.both" s_NodeMaker_both a.f_NodeMaker_both a.fd_NodeMaker_both
  b_NodeMaker_both : Binds K a.fd_NodeMaker_both ["self", "one", "other"] []
  me_NodeMaker_turned : Meth K a.C_NodeMaker "turned" a.f_NodeMaker_turned
  F_NodeMaker_turned : Fun K "turned" "NodeMaker.turned" s_NodeMaker_turned a.f_NodeMaker_turned a.fd_NodeMaker_turned
  b_NodeMaker_turned : Binds K a.fd_NodeMaker_turned ["self", "one"] []
  m_is_length : mg "is_length" = some (.ref a.f_is_length)
  F_is_length : Fun K "is_length" "is_length" s_is_length a.f_is_length a.fd_is_length
  b_is_length : Binds K a.fd_is_length ["maker", "place", "count"] []
  me_NodeMaker_either : Meth K a.C_NodeMaker "either" a.f_NodeMaker_either
  F_NodeMaker_either : Fun K "either" "NodeMaker.either" s_NodeMaker_either a.f_NodeMaker_either a.fd_NodeMaker_either
  b_NodeMaker_either : Binds K a.fd_NodeMaker_either ["self", "one", "other"] []
  me_QueuePlace_width : Meth K a.C_QueuePlace "width" a.f_QueuePlace_width
  F_QueuePlace_width : Fun K "width" "QueuePlace.width" s_QueuePlace_width a.f_QueuePlace_width a.fd_QueuePlace_width
  b_QueuePlace_width : Binds K a.fd_QueuePlace_width ["self"] []
  m_put_place : mg "put_place" = some (.ref a.f_put_place)
  F_put_place : Fun K "put_place" "put_place" s_put_place a.f_put_place a.fd_put_place
  b_put_place : Binds K a.fd_put_place ["maker", "place", "words", "puts"] []
  m_check_net_rows : mg "check_net_rows" = some (.ref a.f_check_net_rows)
  F_check_net_rows : Fun K "check_net_rows" "check_net_rows" s_check_net_rows a.f_check_net_rows a.fd_check_net_rows
  b_check_net_rows : Binds K a.fd_check_net_rows ["kind", "rows", "is_right"] []
  m_is_count : mg "is_count" = some (.ref a.f_is_count)
  F_is_count : Fun K "is_count" "is_count" s_is_count a.f_is_count a.fd_is_count
  b_is_count : Binds K a.fd_is_count ["value"] []
  m_is_word : mg "is_word" = some (.ref a.f_is_word)
  F_is_word : Fun K "is_word" "is_word" s_is_word a.f_is_word a.fd_is_word
  b_is_word : Binds K a.fd_is_word ["value", "width"] []
  m_is_net_source : mg "is_net_source" = some (.ref a.f_is_net_source)
  F_is_net_source : Fun K "is_net_source" "is_net_source" s_is_net_source a.f_is_net_source a.fd_is_net_source
  b_is_net_source : Binds K a.fd_is_net_source ["value", "limit"] []
  m_is_net_flop : mg "is_net_flop" = some (.ref a.f_is_net_flop)
  F_is_net_flop : Fun K "is_net_flop" "is_net_flop" s_is_net_flop a.f_is_net_flop a.fd_is_net_flop
  b_is_net_flop : Binds K a.fd_is_net_flop ["value", "limit"] []
  m_is_net_node : mg "is_net_node" = some (.ref a.f_is_net_node)
  F_is_net_node : Fun K "is_net_node" "is_net_node" s_is_net_node a.f_is_net_node a.fd_is_net_node
  b_is_net_node : Binds K a.fd_is_net_node ["value", "own"] []
  m_is_net_output : mg "is_net_output" = some (.ref a.f_is_net_output)
  F_is_net_output : Fun K "is_net_output" "is_net_output" s_is_net_output a.f_is_net_output a.fd_is_net_output
  b_is_net_output : Binds K a.fd_is_net_output ["value", "limit"] []
  me_Net_init : Meth K a.C_Net "__init__" a.f_Net_init
  F_Net_init : FunC K "__init__" "Net.__init__" s_Net_init a.f_Net_init a.co_Net_init a.fd_Net_init
  b_Net_init : Binds K a.fd_Net_init ["self", "inputs", "flops", "nodes", "outputs"] []
  m__law_pick : mg "_law_pick" = some (.ref a.f__law_pick)
  F__law_pick : Fun K "_law_pick" "_law_pick" s__law_pick a.f__law_pick a.fd__law_pick
  b__law_pick : Binds K a.fd__law_pick ["state", "limit"] []
  m_taken_place : mg "taken_place" = some (.ref a.f_taken_place)
  F_taken_place : Fun K "taken_place" "taken_place" s_taken_place a.f_taken_place a.fd_taken_place
  b_taken_place : Binds K a.fd_taken_place ["maker", "place", "rate", "takes"] []
  m__law_bits : mg "_law_bits" = some (.ref a.f__law_bits)
  F__law_bits : Fun K "_law_bits" "_law_bits" s__law_bits a.f__law_bits a.fd__law_bits
  b__law_bits : Binds K a.fd__law_bits ["state", "size"] []
  m_queue_names : mg "queue_names" = some (.ref a.f_queue_names)
  F_queue_names : Fun K "queue_names" "queue_names" s_queue_names a.f_queue_names a.fd_queue_names
  b_queue_names : Binds K a.fd_queue_names ["name", "room", "width"] []
  m_queue_sources : mg "queue_sources" = some (.ref a.f_queue_sources)
  F_queue_sources : Fun K "queue_sources" "queue_sources" s_queue_sources a.f_queue_sources a.fd_queue_sources
  b_queue_sources : Binds K a.fd_queue_sources ["place"] []
  m__law_told : mg "_law_told" = some (.ref a.f__law_told)
  F__law_told : Fun K "_law_told" "_law_told" s__law_told a.f__law_told a.fd__law_told
  b__law_told : Binds K a.fd__law_told ["words", "room", "width"] []
  m_node_told : mg "node_told" = some (.ref a.f_node_told)
  F_node_told : Fun K "node_told" "node_told" s_node_told a.f_node_told a.fd_node_told
  b_node_told : Binds K a.fd_node_told ["node", "values"] []
  m_net_values : mg "net_values" = some (.ref a.f_net_values)
  F_net_values : Fun K "net_values" "net_values" s_net_values a.f_net_values a.fd_net_values
  b_net_values : Binds K a.fd_net_values ["net", "state", "inputs"] []
  m_is_bits : mg "is_bits" = some (.ref a.f_is_bits)
  F_is_bits : Fun K "is_bits" "is_bits" s_is_bits a.f_is_bits a.fd_is_bits
  b_is_bits : Binds K a.fd_is_bits ["value", "size"] []
  m_net_cycle : mg "net_cycle" = some (.ref a.f_net_cycle)
  F_net_cycle : Fun K "net_cycle" "net_cycle" s_net_cycle a.f_net_cycle a.fd_net_cycle
  b_net_cycle : Binds K a.fd_net_cycle ["net", "state", "inputs"] []
  m__law_same : mg "_law_same" = some (.ref a.f__law_same)
  F__law_same : Fun K "_law_same" "_law_same" s__law_same a.f__law_same a.fd__law_same
  b__law_same : Binds K a.fd__law_same ["told", "due"] []
  m_has_words : mg "has_words" = some (.ref a.f_has_words)
  F_has_words : Fun K "has_words" "has_words" s_has_words a.f_has_words a.fd_has_words
  b_has_words : Binds K a.fd_has_words ["place", "count"] []
  m_has_place_for : mg "has_place_for" = some (.ref a.f_has_place_for)
  F_has_place_for : Fun K "has_place_for" "has_place_for" s_has_place_for a.f_has_place_for a.fd_has_place_for
  b_has_place_for : Binds K a.fd_has_place_for ["maker", "place", "count"] []
  m_queue_bits : mg "queue_bits" = some (.ref a.f_queue_bits)
  F_queue_bits : Fun K "queue_bits" "queue_bits" s_queue_bits a.f_queue_bits a.fd_queue_bits
  b_queue_bits : Binds K a.fd_queue_bits ["words", "room", "width"] []
  m_queue_of_bits : mg "queue_of_bits" = some (.ref a.f_queue_of_bits)
  F_queue_of_bits : Fun K "queue_of_bits" "queue_of_bits" s_queue_of_bits a.f_queue_of_bits a.fd_queue_of_bits
  b_queue_of_bits : Binds K a.fd_queue_of_bits ["bits", "room", "width"] []
  m__law_back : mg "_law_back" = some (.ref a.f__law_back)
  F__law_back : Fun K "_law_back" "_law_back" s__law_back a.f__law_back a.fd__law_back
  b__law_back : Binds K a.fd__law_back ["bits", "room", "width"] []
  m_law : mg "law" = some (.ref a.f_law)
  F_law : Fun K "law" "law" s_law a.f_law a.fd_law
  b_law : Binds K a.fd_law ["script"] []
  ut : utB a.tabs = true
section
variable {P : Program} {w : World} {K : PySem.W.Frag} {mg : Str → Option Value} {base : Heap} {a : Adr}
theorem Txt.na_QueuePlace_more (Tx : Txt K P mg a) : NoAttr K a.C_QueuePlace "more" := noB_ok Tx.no_QueuePlace _ (by decide +kernel)
theorem Txt.na_QueuePlace_rows (Tx : Txt K P mg a) : NoAttr K a.C_QueuePlace "rows" := noB_ok Tx.no_QueuePlace _ (by decide +kernel)
theorem Txt.na_Net_inputs (Tx : Txt K P mg a) : NoAttr K a.C_Net "inputs" := noB_ok Tx.no_Net _ (by decide +kernel)
theorem Txt.na_Net_flops (Tx : Txt K P mg a) : NoAttr K a.C_Net "flops" := noB_ok Tx.no_Net _ (by decide +kernel)
theorem Txt.na_Net_nodes (Tx : Txt K P mg a) : NoAttr K a.C_Net "nodes" := noB_ok Tx.no_Net _ (by decide +kernel)
theorem Txt.na_Net_outputs (Tx : Txt K P mg a) : NoAttr K a.C_Net "outputs" := noB_ok Tx.no_Net _ (by decide +kernel)
theorem Txt.na_NodeMaker_first (Tx : Txt K P mg a) : NoAttr K a.C_NodeMaker "first" := noB_ok Tx.no_NodeMaker _ (by decide +kernel)
theorem Txt.na_NodeMaker_nodes (Tx : Txt K P mg a) : NoAttr K a.C_NodeMaker "nodes" := noB_ok Tx.no_NodeMaker _ (by decide +kernel)
theorem Txt.na_NodeMaker_met (Tx : Txt K P mg a) : NoAttr K a.C_NodeMaker "met" := noB_ok Tx.no_NodeMaker _ (by decide +kernel)
theorem Txt.xf_all (Tx : Txt K P mg a) {tab : List (Nat × Bool)} (c : Nat) (h : (c, true) ∈ tab) (hs : tab.all (fun q => decide (q.1 ∈ [0, 6])) = true := by decide) : XfOk K ((kt K P w a).ad c) := by
  have h2 := of_decide_eq_true (List.all_eq_true.mp hs _ h)
  simp only [List.mem_cons, List.not_mem_nil, or_false] at h2
  rcases h2 with rfl | rfl
  · exact Tx.E_CityError.xf
  · exact Tx.E_InvalidNet.xf
theorem er_CityError (Tx : Txt K P mg a) : ErrOk P w K mg base 2 "CityError" a.C_CityError "CityError" := err_base Tx.E_CityError rfl (fun L => ⟨_, rfl⟩) Tx.sv_CityError
theorem er_InvalidNet (Tx : Txt K P mg a) : ErrOk P w K mg base 2 "InvalidNet" a.C_InvalidNet "InvalidNet" := err_own Tx.E_CityError Tx.E_InvalidNet rfl (fun L => ⟨_, rfl⟩) rfl (fun L => ⟨_, rfl⟩) Tx.so_InvalidNet Tx.sv_InvalidNet
theorem sc__law_start : FnScope N__law_start ["script"] (defScope s__law_start) := ⟨rfl, rfl, rfl, by decide +kernel, rfl, by decide +kernel, by decide +kernel⟩
theorem ok__law_start (Tx : Txt K P mg a) (TT : ∀ p ∈ a.cs, LamX.TabB base mg p.1 p.2) : FnOk P w K mg base (L2.CX P w) 1 a.f__law_start a.fd__law_start ["script"] (spF (kt K P w a) 1 m__law_start) := by
  have ND := sc__law_start.nd
  exact fn_ok (T := kt K P w a) (k := 0) true Tx.F__law_start sc__law_start (fun cdv A outer s H E hr tk po => dss_one (ds_ret (de_own (da_cons (de_var 0) (da_cons (de_int) (da_cons (de_int) (da_cons (de_int) (da_nil)))))))) (fun _ _ _ h => h)
theorem sc_NodeMaker_init : FnScope N_NodeMaker_init ["self", "first"] (defScope s_NodeMaker_init) := ⟨rfl, rfl, rfl, by decide +kernel, rfl, by decide +kernel, by decide +kernel⟩
theorem ok_NodeMaker_init (Tx : Txt K P mg a) (TT : ∀ p ∈ a.cs, LamX.TabB base mg p.1 p.2) : FnOk P w K mg base (L2.CX P w) 1 a.f_NodeMaker_init a.fd_NodeMaker_init ["self", "first"] (spF (kt K P w a) 2 m_NodeMaker_init) := by
  have ND := sc_NodeMaker_init.nd
  exact fn_okA (T := kt K P w a) (k := 0)  Tx.F_NodeMaker_init sc_NodeMaker_init (fun cdv A outer s H E hr tk po => dss_cons (ds_fld 33 39 (by decide : 39 < 67) Tx.na_NodeMaker_first (de_var 0) (de_var 1)) (dss_cons (ds_fld 33 44 (by decide : 44 < 67) Tx.na_NodeMaker_nodes (de_var 0) (de_own (da_nil))) (dss_one (ds_fld 33 45 (by decide : 45 < 67) Tx.na_NodeMaker_met (de_var 0) (de_newT))))) (fun _ _ _ h => h)
theorem sc_QueuePlace_init : FnScope N_QueuePlace_init ["self", "more", "rows"] (defScope s_QueuePlace_init) := ⟨rfl, rfl, rfl, by decide +kernel, rfl, by decide +kernel, by decide +kernel⟩
theorem ok_QueuePlace_init (Tx : Txt K P mg a) (TT : ∀ p ∈ a.cs, LamX.TabB base mg p.1 p.2) : FnOk P w K mg base (L2.CX P w) 1 a.f_QueuePlace_init a.fd_QueuePlace_init ["self", "more", "rows"] (spF (kt K P w a) 3 m_QueuePlace_init) := by
  have ND := sc_QueuePlace_init.nd
  exact fn_ok (T := kt K P w a) (k := 0) false Tx.F_QueuePlace_init sc_QueuePlace_init (fun cdv A outer s H E hr tk po => dss_cons (ds_fld 38 53 (by decide : 53 < 67) Tx.na_QueuePlace_more (de_var 0) (de_callTy call_tuple_of cs_tuple Tx.n_tuple PyProof.Rows.boot_tuple (da_cons (de_var 1) (da_nil)))) (dss_one (ds_fld 38 54 (by decide : 54 < 67) Tx.na_QueuePlace_rows (de_var 0) (de_callTy call_tuple_of cs_tuple Tx.n_tuple PyProof.Rows.boot_tuple (da_cons (de_var 2) (da_nil)))))) (fun _ _ _ h => h)
theorem sc_QueuePlace_room : FnScope N_QueuePlace_room ["self"] (defScope s_QueuePlace_room) := ⟨rfl, rfl, rfl, by decide +kernel, rfl, by decide +kernel, by decide +kernel⟩
theorem ok_QueuePlace_room (Tx : Txt K P mg a) (TT : ∀ p ∈ a.cs, LamX.TabB base mg p.1 p.2) : FnOk P w K mg base (L2.CX P w) 1 a.f_QueuePlace_room a.fd_QueuePlace_room ["self"] (spF (kt K P w a) 1 m_QueuePlace_room) := by
  have ND := sc_QueuePlace_room.nd
  exact fn_ok (T := kt K P w a) (k := 0) false Tx.F_QueuePlace_room sc_QueuePlace_room (fun cdv A outer s H E hr tk po => dss_one (ds_ret (de_callB call_len cs_len Tx.n_len PySem.boot_len (da_cons (de_fld 53 (by decide : 53 < 67) (de_var 0)) (da_nil))))) (fun _ _ _ h => h)
theorem sc_NodeMaker_node : FnScope N_NodeMaker_node ["self", "sources", "table"] (defScope s_NodeMaker_node) := ⟨rfl, rfl, rfl, by decide +kernel, rfl, by decide +kernel, by decide +kernel⟩
theorem ok_NodeMaker_node (Tx : Txt K P mg a) (TT : ∀ p ∈ a.cs, LamX.TabB base mg p.1 p.2) : FnOk P w K mg base (L2.CX P w) 1 a.f_NodeMaker_node a.fd_NodeMaker_node ["self", "sources", "table"] (spF (kt K P w a) 3 m_NodeMaker_node) := by
  have ND := sc_NodeMaker_node.nd
  exact fn_ok (T := kt K P w a) (k := 0) false Tx.F_NodeMaker_node sc_NodeMaker_node (fun cdv A outer s H E hr tk po => dss_cons (ds_set 3 ND (de_bin op_add4 ops_add (de_callTy call_tuple_of cs_tuple Tx.n_tuple PyProof.Rows.boot_tuple (da_cons (de_var 1) (da_nil))) (de_tup (da_cons (de_bin op_sub ops_sub (de_bin op_sub ops_sub (de_int) (de_int)) (de_var 2)) (da_nil))))) (dss_cons (ds_if (dt_tnin (hu_of hr) (de_var 3) (de_fld 45 (by decide : 45 < 67) (de_var 0))) (dss_cons (ds_tput (hu_of hr) (de_bin op_add4 ops_add (de_fld 39 (by decide : 39 < 67) (de_var 0)) (de_callB call_len cs_len Tx.n_len PySem.boot_len (da_cons (de_fld 44 (by decide : 44 < 67) (de_var 0)) (da_nil)))) (de_fld 45 (by decide : 45 < 67) (de_var 0)) (de_var 3)) (dss_one (ds_expr (de_append (de_fld 44 (by decide : 44 < 67) (de_var 0)) (de_tup (da_cons (de_callTy call_tuple_of cs_tuple Tx.n_tuple PyProof.Rows.boot_tuple (da_cons (de_var 1) (da_nil))) (da_cons (de_var 2) (da_nil)))))))) (dss_nil)) (dss_one (ds_ret (de_tget (hu_of hr) (de_fld 45 (by decide : 45 < 67) (de_var 0)) (de_var 3)))))) (fun _ _ _ h => h)
theorem sc_NodeMaker_pick : FnScope N_NodeMaker_pick ["self", "test", "one", "other"] (defScope s_NodeMaker_pick) := ⟨rfl, rfl, rfl, by decide +kernel, rfl, by decide +kernel, by decide +kernel⟩
theorem ok_NodeMaker_pick (Tx : Txt K P mg a) (TT : ∀ p ∈ a.cs, LamX.TabB base mg p.1 p.2) : FnOk P w K mg base (L2.CX P w) 3 a.f_NodeMaker_pick a.fd_NodeMaker_pick ["self", "test", "one", "other"] (spF (kt K P w a) 4 m_NodeMaker_pick) := by
  have G_NodeMaker_node := ok_NodeMaker_node (P := P) (w := w) (base := base) Tx TT
  have ND := sc_NodeMaker_pick.nd
  exact fn_ok (T := kt K P w a) (k := 2) false Tx.F_NodeMaker_pick sc_NodeMaker_pick (fun cdv A outer s H E hr tk po => dss_cons (ds_if (dt_cmp op_lt ops_lt (de_var 1) (de_int) (nomark _)) (dss_one (ds_ret (de_if (dt_cmp (op_eqU hr.units) ops_eq (de_var 1) (de_int) (nomark _)) (de_var 2) (de_var 3)))) (dss_nil)) (dss_one (ds_ret (de_if (dt_cmp (op_eqU hr.units) ops_eq (de_var 2) (de_var 3) (nomark _)) (de_var 2) (de_meth 33 tk Tx.me_NodeMaker_node (insB_ok Tx.in_NodeMaker) (by decide +kernel : ¬ ("node" : Str) ∈ flds) G_NodeMaker_node (hr.mono (by decide)) Tx.b_NodeMaker_node (de_var 0) (da_cons (de_tup (da_cons (de_var 1) (da_cons (de_var 2) (da_cons (de_var 3) (da_nil))))) (da_cons (de_glob (v := .int 216) (d := .int 216) Tx.c_PICK3 ⟨_, rfl⟩ (fun _ _ => rfl)) (da_nil)))))))) (fun _ _ _ h => h)
theorem sc_NodeMaker_both : FnScope N_NodeMaker_both ["self", "one", "other"] (defScope s_NodeMaker_both) := ⟨rfl, rfl, rfl, by decide +kernel, rfl, by decide +kernel, by decide +kernel⟩
theorem ok_NodeMaker_both (Tx : Txt K P mg a) (TT : ∀ p ∈ a.cs, LamX.TabB base mg p.1 p.2) : FnOk P w K mg base (L2.CX P w) 3 a.f_NodeMaker_both a.fd_NodeMaker_both ["self", "one", "other"] (spF (kt K P w a) 3 m_NodeMaker_both) := by
  have G_NodeMaker_node := ok_NodeMaker_node (P := P) (w := w) (base := base) Tx TT
  have ND := sc_NodeMaker_both.nd
  exact fn_ok (T := kt K P w a) (k := 2) false Tx.F_NodeMaker_both sc_NodeMaker_both (fun cdv A outer s H E hr tk po => dss_cons (ds_if (dt_cmp op_lt ops_lt (de_var 1) (de_int) (nomark _)) (dss_one (ds_ret (de_if (dt_cmp (op_eqU hr.units) ops_eq (de_var 1) (de_int) (nomark _)) (de_var 2) (de_int)))) (dss_nil)) (dss_cons (ds_if (dt_cmp op_lt ops_lt (de_var 2) (de_int) (nomark _)) (dss_one (ds_ret (de_if (dt_cmp (op_eqU hr.units) ops_eq (de_var 2) (de_int) (nomark _)) (de_var 1) (de_int)))) (dss_nil)) (dss_one (ds_ret (de_meth 33 tk Tx.me_NodeMaker_node (insB_ok Tx.in_NodeMaker) (by decide +kernel : ¬ ("node" : Str) ∈ flds) G_NodeMaker_node (hr.mono (by decide)) Tx.b_NodeMaker_node (de_var 0) (da_cons (de_tup (da_cons (de_var 1) (da_cons (de_var 2) (da_nil)))) (da_cons (de_glob (v := .int 8) (d := .int 8) Tx.c_AND2 ⟨_, rfl⟩ (fun _ _ => rfl)) (da_nil)))))))) (fun _ _ _ h => h)
theorem sc_NodeMaker_turned : FnScope N_NodeMaker_turned ["self", "one"] (defScope s_NodeMaker_turned) := ⟨rfl, rfl, rfl, by decide +kernel, rfl, by decide +kernel, by decide +kernel⟩
theorem ok_NodeMaker_turned (Tx : Txt K P mg a) (TT : ∀ p ∈ a.cs, LamX.TabB base mg p.1 p.2) : FnOk P w K mg base (L2.CX P w) 3 a.f_NodeMaker_turned a.fd_NodeMaker_turned ["self", "one"] (spF (kt K P w a) 2 m_NodeMaker_turned) := by
  have G_NodeMaker_node := ok_NodeMaker_node (P := P) (w := w) (base := base) Tx TT
  have ND := sc_NodeMaker_turned.nd
  exact fn_ok (T := kt K P w a) (k := 2) false Tx.F_NodeMaker_turned sc_NodeMaker_turned (fun cdv A outer s H E hr tk po => dss_one (ds_ret (de_if (dt_cmp op_lt ops_lt (de_var 1) (de_int) (nomark _)) (de_bin op_sub ops_sub (de_int) (de_var 1)) (de_meth 33 tk Tx.me_NodeMaker_node (insB_ok Tx.in_NodeMaker) (by decide +kernel : ¬ ("node" : Str) ∈ flds) G_NodeMaker_node (hr.mono (by decide)) Tx.b_NodeMaker_node (de_var 0) (da_cons (de_tup (da_cons (de_var 1) (da_nil))) (da_cons (de_glob (v := .int 1) (d := .int 1) Tx.c_NOT1 ⟨_, rfl⟩ (fun _ _ => rfl)) (da_nil))))))) (fun _ _ _ h => h)
theorem sc_is_length : FnScope N_is_length ["maker", "place", "count"] (defScope s_is_length) := ⟨rfl, rfl, rfl, by decide +kernel, rfl, by decide +kernel, by decide +kernel⟩
theorem ok_is_length (Tx : Txt K P mg a) (TT : ∀ p ∈ a.cs, LamX.TabB base mg p.1 p.2) : FnOk P w K mg base (L2.CX P w) 5 a.f_is_length a.fd_is_length ["maker", "place", "count"] (spF (kt K P w a) 3 m_is_length) := by
  have G_NodeMaker_turned := ok_NodeMaker_turned (P := P) (w := w) (base := base) Tx TT
  have G_NodeMaker_both := ok_NodeMaker_both (P := P) (w := w) (base := base) Tx TT
  have ND := sc_is_length.nd
  exact fn_ok (T := kt K P w a) (k := 4) false Tx.F_is_length sc_is_length (fun cdv A outer s H E hr tk po => dss_cons (ds_set 3 ND (de_meth 33 tk Tx.me_NodeMaker_turned (insB_ok Tx.in_NodeMaker) (by decide +kernel : ¬ ("turned" : Str) ∈ flds) G_NodeMaker_turned (hr.mono (by decide)) Tx.b_NodeMaker_turned (de_var 0) (da_cons (de_ix (de_fld 53 (by decide : 53 < 67) (de_var 1)) (de_var 2)) (da_nil)))) (dss_one (ds_ret (de_if (dt_cmp (op_eqU hr.units) ops_eq (de_var 2) (de_int) (nomark _)) (de_var 3) (de_meth 33 tk Tx.me_NodeMaker_both (insB_ok Tx.in_NodeMaker) (by decide +kernel : ¬ ("both" : Str) ∈ flds) G_NodeMaker_both (hr.mono (by decide)) Tx.b_NodeMaker_both (de_var 0) (da_cons (de_ix (de_fld 53 (by decide : 53 < 67) (de_var 1)) (de_bin op_sub ops_sub (de_var 2) (de_int))) (da_cons (de_var 3) (da_nil)))))))) (fun _ _ _ h => h)
theorem sc_NodeMaker_either : FnScope N_NodeMaker_either ["self", "one", "other"] (defScope s_NodeMaker_either) := ⟨rfl, rfl, rfl, by decide +kernel, rfl, by decide +kernel, by decide +kernel⟩
theorem ok_NodeMaker_either (Tx : Txt K P mg a) (TT : ∀ p ∈ a.cs, LamX.TabB base mg p.1 p.2) : FnOk P w K mg base (L2.CX P w) 3 a.f_NodeMaker_either a.fd_NodeMaker_either ["self", "one", "other"] (spF (kt K P w a) 3 m_NodeMaker_either) := by
  have G_NodeMaker_node := ok_NodeMaker_node (P := P) (w := w) (base := base) Tx TT
  have ND := sc_NodeMaker_either.nd
  exact fn_ok (T := kt K P w a) (k := 2) false Tx.F_NodeMaker_either sc_NodeMaker_either (fun cdv A outer s H E hr tk po => dss_cons (ds_if (dt_cmp op_lt ops_lt (de_var 1) (de_int) (nomark _)) (dss_one (ds_ret (de_if (dt_cmp (op_eqU hr.units) ops_eq (de_var 1) (de_int) (nomark _)) (de_int) (de_var 2)))) (dss_nil)) (dss_cons (ds_if (dt_cmp op_lt ops_lt (de_var 2) (de_int) (nomark _)) (dss_one (ds_ret (de_if (dt_cmp (op_eqU hr.units) ops_eq (de_var 2) (de_int) (nomark _)) (de_int) (de_var 1)))) (dss_nil)) (dss_one (ds_ret (de_meth 33 tk Tx.me_NodeMaker_node (insB_ok Tx.in_NodeMaker) (by decide +kernel : ¬ ("node" : Str) ∈ flds) G_NodeMaker_node (hr.mono (by decide)) Tx.b_NodeMaker_node (de_var 0) (da_cons (de_tup (da_cons (de_var 1) (da_cons (de_var 2) (da_nil)))) (da_cons (de_glob (v := .int 14) (d := .int 14) Tx.c_OR2 ⟨_, rfl⟩ (fun _ _ => rfl)) (da_nil)))))))) (fun _ _ _ h => h)
theorem sc_QueuePlace_width : FnScope N_QueuePlace_width ["self"] (defScope s_QueuePlace_width) := ⟨rfl, rfl, rfl, by decide +kernel, rfl, by decide +kernel, by decide +kernel⟩
theorem ok_QueuePlace_width (Tx : Txt K P mg a) (TT : ∀ p ∈ a.cs, LamX.TabB base mg p.1 p.2) : FnOk P w K mg base (L2.CX P w) 1 a.f_QueuePlace_width a.fd_QueuePlace_width ["self"] (spF (kt K P w a) 1 m_QueuePlace_width) := by
  have ND := sc_QueuePlace_width.nd
  exact fn_ok (T := kt K P w a) (k := 0) false Tx.F_QueuePlace_width sc_QueuePlace_width (fun cdv A outer s H E hr tk po => dss_one (ds_ret (de_callB call_len cs_len Tx.n_len PySem.boot_len (da_cons (de_ix (de_fld 54 (by decide : 54 < 67) (de_var 0)) (de_int)) (da_nil))))) (fun _ _ _ h => h)
theorem sc_put_place : FnScope N_put_place ["maker", "place", "words", "puts"] (defScope s_put_place) := ⟨rfl, rfl, rfl, by decide +kernel, rfl, by decide +kernel, by decide +kernel⟩
theorem ok_put_place (Tx : Txt K P mg a) (TT : ∀ p ∈ a.cs, LamX.TabB base mg p.1 p.2) : FnOk P w K mg base (L2.CX P w) 7 a.f_put_place a.fd_put_place ["maker", "place", "words", "puts"] (spF (kt K P w a) 4 m_put_place) := by
  have G_QueuePlace_room := ok_QueuePlace_room (P := P) (w := w) (base := base) Tx TT
  have G_NodeMaker_pick := ok_NodeMaker_pick (P := P) (w := w) (base := base) Tx TT
  have G_NodeMaker_both := ok_NodeMaker_both (P := P) (w := w) (base := base) Tx TT
  have G_is_length := ok_is_length (P := P) (w := w) (base := base) Tx TT
  have G_QueuePlace_width := ok_QueuePlace_width (P := P) (w := w) (base := base) Tx TT
  have G_NodeMaker_either := ok_NodeMaker_either (P := P) (w := w) (base := base) Tx TT
  have G_QueuePlace_init := ok_QueuePlace_init (P := P) (w := w) (base := base) Tx TT
  have ND := sc_put_place.nd
  exact fn_ok (T := kt K P w a) (k := 6) false Tx.F_put_place sc_put_place (fun cdv A outer s H E hr tk po => dss_cons (ds_asg (dg_tup rfl (dgs_cons (dg_name 4 ND) (dgs_cons (dg_name 5 ND) (dgs_cons (dg_name 6 ND) (dgs_cons (dg_name 7 ND) (dgs_nil)))))) (de_tup (da_cons (de_meth0 38 tk Tx.me_QueuePlace_room (insB_ok Tx.in_QueuePlace) (by decide +kernel : ¬ ("room" : Str) ∈ flds) G_QueuePlace_room (hr.mono (by decide)) Tx.b_QueuePlace_room (de_var 1)) (da_cons (de_callB call_len cs_len Tx.n_len PySem.boot_len (da_cons (de_var 2) (da_nil))) (da_cons (de_own (da_nil)) (da_cons (de_own (da_nil)) (da_nil))))))) (dss_cons (ds_for po rfl (di_range1 (de_var 4) Tx.n_range) (dg_name 8 ND) (dss_cons (ds_expr (de_append (de_var 6) (de_meth 33 tk Tx.me_NodeMaker_pick (insB_ok Tx.in_NodeMaker) (by decide +kernel : ¬ ("pick" : Str) ∈ flds) G_NodeMaker_pick (hr.mono (by decide)) Tx.b_NodeMaker_pick (de_var 0) (da_cons (de_var 3) (da_cons (de_if (dt_cmp op_ge ops_ge (de_var 8) (de_var 5) (nomark _)) (de_ix (de_fld 53 (by decide : 53 < 67) (de_var 1)) (de_bin op_sub ops_sub (de_var 8) (de_var 5))) (de_int)) (da_cons (de_ix (de_fld 53 (by decide : 53 < 67) (de_var 1)) (de_var 8)) (da_nil))))))) (dss_cons (ds_set 9 ND (de_ix (de_fld 54 (by decide : 54 < 67) (de_var 1)) (de_var 8))) (dss_cons (ds_for po rfl (di_range1 (de_callB (call_min2 rfl) cs_min2 Tx.n_min (by decide +kernel) (da_cons (de_var 5) (da_cons (de_bin op_add4 ops_add (de_var 8) (de_int)) (da_nil)))) Tx.n_range) (dg_name 10 ND) (dss_cons (ds_set 11 ND (de_meth 33 tk Tx.me_NodeMaker_both (insB_ok Tx.in_NodeMaker) (by decide +kernel : ¬ ("both" : Str) ∈ flds) G_NodeMaker_both (hr.mono (by decide)) Tx.b_NodeMaker_both (de_var 0) (da_cons (de_var 3) (da_cons (de_call tk G_is_length (hr.mono (by decide)) Tx.m_is_length Tx.F_is_length.kp Tx.b_is_length (da_cons (de_var 0) (da_cons (de_var 1) (da_cons (de_bin op_sub ops_sub (de_var 8) (de_var 10)) (da_nil))))) (da_nil))))) (dss_one (ds_set 9 ND (de_callTy call_tuple_of cs_tuple Tx.n_tuple PyProof.Rows.boot_tuple (da_cons (de_lc (own := [("i", 12)]) rfl ND (di_range1 (de_meth0 38 tk Tx.me_QueuePlace_width (insB_ok Tx.in_QueuePlace) (by decide +kernel : ¬ ("width" : Str) ∈ flds) G_QueuePlace_width (hr.mono (by decide)) Tx.b_QueuePlace_width (de_var 1)) Tx.n_range) (blkOk_by (by kernel_rfl)) (by decide) (fun b => dg_name 12 ND) (fun b => dts_nil) (fun b => de_meth 33 VM.takes0 Tx.me_NodeMaker_either (insB_ok Tx.in_NodeMaker) (by decide +kernel : ¬ ("either" : Str) ∈ flds) G_NodeMaker_either (hr.mono (by decide)) Tx.b_NodeMaker_either (de_var 0) (da_cons (de_ix (de_var 9) (de_var 12)) (da_cons (de_meth 33 VM.takes0 Tx.me_NodeMaker_both (insB_ok Tx.in_NodeMaker) (by decide +kernel : ¬ ("both" : Str) ∈ flds) G_NodeMaker_both (hr.mono (by decide)) Tx.b_NodeMaker_both (de_var 0) (da_cons (de_var 11) (da_cons (de_ix (de_ix (de_var 2) (de_var 10)) (de_var 12)) (da_nil)))) (da_nil))))) (da_nil))))))) (dss_one (ds_expr (de_append (de_var 7) (de_var 9)))))))) (dss_one (ds_ret (de_make false 38 tk Tx.mk_QueuePlace (insB_ok Tx.in_QueuePlace) G_QueuePlace_init (hr.mono (by decide)) Tx.a_QueuePlace Tx.b_QueuePlace_init (da_cons (de_var 6) (da_cons (de_var 7) (da_nil)))))))) (fun _ _ _ h => h)
theorem sc_check_net_rows : FnScope N_check_net_rows ["kind", "rows", "is_right"] (defScope s_check_net_rows) := ⟨rfl, rfl, rfl, by decide +kernel, rfl, by decide +kernel, by decide +kernel⟩
theorem ok_check_net_rows (Tx : Txt K P mg a) (TT : ∀ p ∈ a.cs, LamX.TabB base mg p.1 p.2) : FnL P w K (kt K P w a) mg base 3 a.f_check_net_rows "check_net_rows" "check_net_rows" s_check_net_rows a.fd_check_net_rows N_check_net_rows ["kind", "rows", "is_right"] 2 m_check_net_rows := by
  have ND := sc_check_net_rows.nd
  exact ⟨Tx.F_check_net_rows, sc_check_net_rows, false, fun d L => g_check_net_rows d L, fun _ _ _ _ _ h => h, fun cdv A outer s H E f c q us0 ds0 L hr tk po hL => dss_one (ds_for po rfl (di_range1 (de_callB call_len cs_len Tx.n_len PySem.boot_len (da_cons (de_var 1) (da_nil))) Tx.n_range) (dg_name 3 ND) (dss_one (ds_if (dt_not (dt_val (de_lam 2 tk hL (da_cons (de_var 3) (da_cons (de_ix (de_var 1) (de_var 3)) (da_nil)))))) (dss_one (ds_raise 6 rfl tk (er_InvalidNet Tx) (hr.mono (by decide)) (de_tup (da_cons (de_var 0) (da_cons (de_var 3) (da_nil)))))) (dss_nil))))⟩
theorem sc_is_count : FnScope N_is_count ["value"] (defScope s_is_count) := ⟨rfl, rfl, rfl, by decide +kernel, rfl, by decide +kernel, by decide +kernel⟩
theorem ok_is_count (Tx : Txt K P mg a) (TT : ∀ p ∈ a.cs, LamX.TabB base mg p.1 p.2) : FnOk P w K mg base (L2.CX P w) 1 a.f_is_count a.fd_is_count ["value"] (spF (kt K P w a) 1 m_is_count) := by
  have ND := sc_is_count.nd
  exact fn_ok (T := kt K P w a) (k := 0) false Tx.F_is_count sc_is_count (fun cdv A outer s H E hr tk po => dss_one (ds_ret (de_and (de_isi TN.int (de_var 0) Tx.n_isinstance Tx.n_int) (de_and (de_not (de_isi TN.bool (de_var 0) Tx.n_isinstance Tx.n_bool)) (de_one (de_cmp op_ge ops_ge (de_var 0) (de_int) (nomark _))))))) (fun _ _ _ h => h)
theorem sc_is_word : FnScope N_is_word ["value", "width"] (defScope s_is_word) := ⟨rfl, rfl, rfl, by decide +kernel, rfl, by decide +kernel, by decide +kernel⟩
theorem ok_is_word (Tx : Txt K P mg a) (TT : ∀ p ∈ a.cs, LamX.TabB base mg p.1 p.2) : FnOk P w K mg base (L2.CX P w) 3 a.f_is_word a.fd_is_word ["value", "width"] (spF (kt K P w a) 2 m_is_word) := by
  have G_is_count := ok_is_count (P := P) (w := w) (base := base) Tx TT
  have ND := sc_is_word.nd
  exact fn_ok (T := kt K P w a) (k := 2) false Tx.F_is_word sc_is_word (fun cdv A outer s H E hr tk po => dss_one (ds_ret (de_and (de_call tk G_is_count (hr.mono (by decide)) Tx.m_is_count Tx.F_is_count.kp Tx.b_is_count (da_cons (de_var 0) (da_nil))) (de_one (de_cmp op_lt ops_lt (de_var 0) (de_bin op_shl ops_shl (de_int) (de_var 1)) (nomark _)))))) (fun _ _ _ h => h)
theorem sc_is_net_source : FnScope N_is_net_source ["value", "limit"] (defScope s_is_net_source) := ⟨rfl, rfl, rfl, by decide +kernel, rfl, by decide +kernel, by decide +kernel⟩
theorem ok_is_net_source (Tx : Txt K P mg a) (TT : ∀ p ∈ a.cs, LamX.TabB base mg p.1 p.2) : FnOk P w K mg base (L2.CX P w) 3 a.f_is_net_source a.fd_is_net_source ["value", "limit"] (spF (kt K P w a) 2 m_is_net_source) := by
  have G_is_count := ok_is_count (P := P) (w := w) (base := base) Tx TT
  have ND := sc_is_net_source.nd
  exact fn_ok (T := kt K P w a) (k := 2) false Tx.F_is_net_source sc_is_net_source (fun cdv A outer s H E hr tk po => dss_one (ds_ret (de_and (de_call tk G_is_count (hr.mono (by decide)) Tx.m_is_count Tx.F_is_count.kp Tx.b_is_count (da_cons (de_var 0) (da_nil))) (de_one (de_cmp op_lt ops_lt (de_var 0) (de_var 1) (nomark _)))))) (fun _ _ _ h => h)
theorem sc_is_net_flop : FnScope N_is_net_flop ["value", "limit"] (defScope s_is_net_flop) := ⟨rfl, rfl, rfl, by decide +kernel, rfl, by decide +kernel, by decide +kernel⟩
theorem ok_is_net_flop (Tx : Txt K P mg a) (TT : ∀ p ∈ a.cs, LamX.TabB base mg p.1 p.2) : FnOk P w K mg base (L2.CX P w) 5 a.f_is_net_flop a.fd_is_net_flop ["value", "limit"] (spF (kt K P w a) 2 m_is_net_flop) := by
  have G_is_word := ok_is_word (P := P) (w := w) (base := base) Tx TT
  have G_is_net_source := ok_is_net_source (P := P) (w := w) (base := base) Tx TT
  have ND := sc_is_net_flop.nd
  exact fn_ok (T := kt K P w a) (k := 4) false Tx.F_is_net_flop sc_is_net_flop (fun cdv A outer s H E hr tk po => dss_cons (ds_if (DW.t (dw_or (dt_not (dt_val (de_isi TN.tuple (de_var 0) Tx.n_isinstance Tx.n_tuple))) (dw_or (dt_cmp (op_neU hr.units) ops_ne (de_callB call_len cs_len Tx.n_len PySem.boot_len (da_cons (de_var 0) (da_nil))) (de_int) (nomark _)) (dw_or1 (dt_not (dt_val (de_isi TN.str (de_ix (de_var 0) (de_int)) Tx.n_isinstance Tx.n_str))))))) (dss_one (ds_ret (de_bl))) (dss_nil)) (dss_one (ds_ret (de_and (de_call tk G_is_word (hr.mono (by decide)) Tx.m_is_word Tx.F_is_word.kp Tx.b_is_word (da_cons (de_ix (de_var 0) (de_int)) (da_cons (de_int) (da_nil)))) (de_one (de_call tk G_is_net_source (hr.mono (by decide)) Tx.m_is_net_source Tx.F_is_net_source.kp Tx.b_is_net_source (da_cons (de_ix (de_var 0) (de_int)) (da_cons (de_var 1) (da_nil))))))))) (fun _ _ _ h => h)
theorem sc_is_net_node : FnScope N_is_net_node ["value", "own"] (defScope s_is_net_node) := ⟨rfl, rfl, rfl, by decide +kernel, rfl, by decide +kernel, by decide +kernel⟩
theorem ok_is_net_node (Tx : Txt K P mg a) (TT : ∀ p ∈ a.cs, LamX.TabB base mg p.1 p.2) : FnOk P w K mg base (L2.CX P w) 5 a.f_is_net_node a.fd_is_net_node ["value", "own"] (spF (kt K P w a) 2 m_is_net_node) := by
  have G_is_net_source := ok_is_net_source (P := P) (w := w) (base := base) Tx TT
  have G_is_word := ok_is_word (P := P) (w := w) (base := base) Tx TT
  have ND := sc_is_net_node.nd
  exact fn_ok (T := kt K P w a) (k := 4) false Tx.F_is_net_node sc_is_net_node (fun cdv A outer s H E hr tk po => dss_cons (ds_if (DW.t (dw_or (dt_not (dt_val (de_isi TN.tuple (de_var 0) Tx.n_isinstance Tx.n_tuple))) (dw_or (dt_cmp (op_neU hr.units) ops_ne (de_callB call_len cs_len Tx.n_len PySem.boot_len (da_cons (de_var 0) (da_nil))) (de_int) (nomark _)) (dw_or1 (dt_not (dt_val (de_isi TN.tuple (de_ix (de_var 0) (de_int)) Tx.n_isinstance Tx.n_tuple))))))) (dss_one (ds_ret (de_bl))) (dss_nil)) (dss_cons (ds_if (DW.t (dw_or (dt_not (dt_chain op_le ops_le op_le ops_le (de_int) (de_callB call_len cs_len Tx.n_len PySem.boot_len (da_cons (de_ix (de_var 0) (de_int)) (da_nil))) (de_int))) (dw_or1 (dt_not (dt_val (de_callB (cr_all rfl) cs_all Tx.n_all (by decide +kernel) (da_cons (de_lc (own := [("one", 2)]) rfl ND (di_any (de_ix (de_var 0) (de_int))) (blkOk_by (by kernel_rfl)) (by decide) (fun b => dg_name 2 ND) (fun b => dts_nil) (fun b => de_call VM.takes0 G_is_net_source (hr.mono (by decide)) Tx.m_is_net_source Tx.F_is_net_source.kp Tx.b_is_net_source (da_cons (de_var 2) (da_cons (de_var 1) (da_nil))))) (da_nil)))))))) (dss_one (ds_ret (de_bl))) (dss_nil)) (dss_one (ds_ret (de_call tk G_is_word (hr.mono (by decide)) Tx.m_is_word Tx.F_is_word.kp Tx.b_is_word (da_cons (de_ix (de_var 0) (de_int)) (da_cons (de_bin op_shl ops_shl (de_int) (de_callB call_len cs_len Tx.n_len PySem.boot_len (da_cons (de_ix (de_var 0) (de_int)) (da_nil)))) (da_nil)))))))) (fun _ _ _ h => h)
theorem sc_is_net_output : FnScope N_is_net_output ["value", "limit"] (defScope s_is_net_output) := ⟨rfl, rfl, rfl, by decide +kernel, rfl, by decide +kernel, by decide +kernel⟩
theorem ok_is_net_output (Tx : Txt K P mg a) (TT : ∀ p ∈ a.cs, LamX.TabB base mg p.1 p.2) : FnOk P w K mg base (L2.CX P w) 5 a.f_is_net_output a.fd_is_net_output ["value", "limit"] (spF (kt K P w a) 2 m_is_net_output) := by
  have G_is_net_source := ok_is_net_source (P := P) (w := w) (base := base) Tx TT
  have ND := sc_is_net_output.nd
  exact fn_ok (T := kt K P w a) (k := 4) false Tx.F_is_net_output sc_is_net_output (fun cdv A outer s H E hr tk po => dss_cons (ds_if (DW.t (dw_or (dt_not (dt_val (de_isi TN.tuple (de_var 0) Tx.n_isinstance Tx.n_tuple))) (dw_or (dt_cmp (op_neU hr.units) ops_ne (de_callB call_len cs_len Tx.n_len PySem.boot_len (da_cons (de_var 0) (da_nil))) (de_int) (nomark _)) (dw_or1 (dt_not (dt_val (de_isi TN.str (de_ix (de_var 0) (de_int)) Tx.n_isinstance Tx.n_str))))))) (dss_one (ds_ret (de_bl))) (dss_nil)) (dss_one (ds_ret (de_call tk G_is_net_source (hr.mono (by decide)) Tx.m_is_net_source Tx.F_is_net_source.kp Tx.b_is_net_source (da_cons (de_ix (de_var 0) (de_int)) (da_cons (de_var 1) (da_nil))))))) (fun _ _ _ h => h)
theorem sc_Net_init : FnScope N_Net_init ["self", "inputs", "flops", "nodes", "outputs"] (defScope s_Net_init) := ⟨rfl, rfl, rfl, by decide +kernel, rfl, by decide +kernel, by decide +kernel⟩
theorem ok_Net_init (Tx : Txt K P mg a) (TT : ∀ p ∈ a.cs, LamX.TabB base mg p.1 p.2) : FnOk P w K mg base (L2.CX P w) 9 a.f_Net_init a.fd_Net_init ["self", "inputs", "flops", "nodes", "outputs"] (spF (kt K P w a) 5 m_Net_init) := by
  have G_check_net_rows := ok_check_net_rows (P := P) (w := w) (base := base) Tx TT
  have G_is_net_flop := ok_is_net_flop (P := P) (w := w) (base := base) Tx TT
  have G_is_net_node := ok_is_net_node (P := P) (w := w) (base := base) Tx TT
  have G_is_net_output := ok_is_net_output (P := P) (w := w) (base := base) Tx TT
  have ND := sc_Net_init.nd
  exact fn_okC (T := kt K P w a) (k := 8) false Tx.F_Net_init sc_Net_init (fun A outer s H E hr tk po => dss_cons (ds_for po rfl (di_any (de_tup (da_cons (de_tup (da_cons (de_str) (da_cons (de_var 1) (da_nil)))) (da_cons (de_tup (da_cons (de_str) (da_cons (de_var 2) (da_nil)))) (da_cons (de_tup (da_cons (de_str) (da_cons (de_var 3) (da_nil)))) (da_cons (de_tup (da_cons (de_str) (da_cons (de_var 4) (da_nil)))) (da_nil))))))) (dg_tup rfl (dgs_cons (dg_name 5 ND) (dgs_cons (dg_name 6 ND) (dgs_nil)))) (dss_one (ds_if (dt_not (dt_val (de_isi TN.tuple (de_var 6) Tx.n_isinstance Tx.n_tuple))) (dss_one (ds_raise 6 rfl tk (er_InvalidNet Tx) (hr.mono (by decide)) (de_tup (da_cons (de_var 5) (da_cons (de_non) (da_nil)))))) (dss_nil)))) (dss_cons (ds_set 7 ND (de_bin op_add4 ops_add (de_bin op_add4 ops_add (de_int) (de_callB call_len cs_len Tx.n_len PySem.boot_len (da_cons (de_var 1) (da_nil)))) (de_callB call_len cs_len Tx.n_len PySem.boot_len (da_cons (de_var 2) (da_nil))))) (dss_cons (ds_set 8 ND (de_bin op_add4 ops_add (de_var 7) (de_callB call_len cs_len Tx.n_len PySem.boot_len (da_cons (de_var 3) (da_nil))))) (dss_cons (ds_expr (de_lamC2 (ps := ["k", "row"]) (js := [9, 10]) (k := 0) G_check_net_rows (⟨TT _ (mem_at 0 rfl), rfl, mem_at 0 rfl, utB_ok Tx.ut (mem_at 0 rfl), lamP_by (N := N_Net_init) (sc := defScope s_Net_init) (by decide +kernel), rfl, fun us q cl pm cv ctv hl => match us, hl with | [_, _], _ => rfl, fun A outer s H E f c hr tk po => de_isi TN.str (de_var 10) Tx.n_isinstance Tx.n_str⟩) rfl 3 (hr.mono (by decide)) (by decide) (by decide) tk Tx.b_check_net_rows Tx.m_check_net_rows Tx.F_check_net_rows.kp (de_str) (de_var 1))) (dss_cons (ds_expr (de_lamC2 (ps := ["k", "row"]) (js := [9, 10]) (k := 6) G_check_net_rows (⟨TT _ (mem_at 0 rfl), rfl, mem_at 0 rfl, utB_ok Tx.ut (mem_at 0 rfl), lamP_by (N := N_Net_init) (sc := defScope s_Net_init) (by decide +kernel), rfl, fun us q cl pm cv ctv hl => match us, hl with | [_, _], _ => rfl, fun A outer s H E f c hr tk po => de_call tk G_is_net_flop (hr.mono (by decide)) Tx.m_is_net_flop Tx.F_is_net_flop.kp Tx.b_is_net_flop (da_cons (de_var 10) (da_cons (de_var 8) (da_nil)))⟩) rfl 7 (hr.mono (by decide)) (by decide) (by decide) tk Tx.b_check_net_rows Tx.m_check_net_rows Tx.F_check_net_rows.kp (de_str) (de_var 2))) (dss_cons (ds_expr (de_lamC2 (ps := ["k", "row"]) (js := [9, 10]) (k := 6) G_check_net_rows (⟨TT _ (mem_at 0 rfl), rfl, mem_at 0 rfl, utB_ok Tx.ut (mem_at 0 rfl), lamP_by (N := N_Net_init) (sc := defScope s_Net_init) (by decide +kernel), rfl, fun us q cl pm cv ctv hl => match us, hl with | [_, _], _ => rfl, fun A outer s H E f c hr tk po => de_call tk G_is_net_node (hr.mono (by decide)) Tx.m_is_net_node Tx.F_is_net_node.kp Tx.b_is_net_node (da_cons (de_var 10) (da_cons (de_bin op_add4 ops_add (de_var 7) (de_var 9)) (da_nil)))⟩) rfl 7 (hr.mono (by decide)) (by decide) (by decide) tk Tx.b_check_net_rows Tx.m_check_net_rows Tx.F_check_net_rows.kp (de_str) (de_var 3))) (dss_cons (ds_expr (de_lamC2 (ps := ["k", "row"]) (js := [9, 10]) (k := 6) G_check_net_rows (⟨TT _ (mem_at 0 rfl), rfl, mem_at 0 rfl, utB_ok Tx.ut (mem_at 0 rfl), lamP_by (N := N_Net_init) (sc := defScope s_Net_init) (by decide +kernel), rfl, fun us q cl pm cv ctv hl => match us, hl with | [_, _], _ => rfl, fun A outer s H E f c hr tk po => de_call tk G_is_net_output (hr.mono (by decide)) Tx.m_is_net_output Tx.F_is_net_output.kp Tx.b_is_net_output (da_cons (de_var 10) (da_cons (de_var 8) (da_nil)))⟩) rfl 7 (hr.mono (by decide)) (by decide) (by decide) tk Tx.b_check_net_rows Tx.m_check_net_rows Tx.F_check_net_rows.kp (de_str) (de_var 4))) (dss_cons (ds_fld 32 20 (by decide : 20 < 67) Tx.na_Net_inputs (de_var 0) (de_var 1)) (dss_cons (ds_fld 32 41 (by decide : 41 < 67) Tx.na_Net_flops (de_var 0) (de_var 2)) (dss_cons (ds_fld 32 44 (by decide : 44 < 67) Tx.na_Net_nodes (de_var 0) (de_var 3)) (dss_one (ds_fld 32 21 (by decide : 21 < 67) Tx.na_Net_outputs (de_var 0) (de_var 4))))))))))))) (fun _ _ _ h => h)
theorem sc__law_pick : FnScope N__law_pick ["state", "limit"] (defScope s__law_pick) := ⟨rfl, rfl, rfl, by decide +kernel, rfl, by decide +kernel, by decide +kernel⟩
theorem ok__law_pick (Tx : Txt K P mg a) (TT : ∀ p ∈ a.cs, LamX.TabB base mg p.1 p.2) : FnOk P w K mg base (L2.CX P w) 1 a.f__law_pick a.fd__law_pick ["state", "limit"] (spF (kt K P w a) 2 m__law_pick) := by
  have ND := sc__law_pick.nd
  exact fn_ok (T := kt K P w a) (k := 0) false Tx.F__law_pick sc__law_pick (fun cdv A outer s H E hr tk po => dss_cons (ds_if (DW.t (dw_and (dt_cmp (op_eqU hr.units) ops_eq (de_ix (de_var 0) (de_int)) (de_int) (nomark _)) (dw_and1 (dt_cmp op_lt ops_lt (de_ix (de_var 0) (de_int)) (de_callB call_len cs_len Tx.n_len PySem.boot_len (da_cons (de_ix (de_var 0) (de_int)) (da_nil))) (nomark _))))) (dss_cons (ds_set 2 ND (de_callB call_abs cs_abs Tx.n_abs PyProof.Rows.boot_abs (da_cons (de_ix (de_ix (de_var 0) (de_int)) (de_ix (de_var 0) (de_int))) (da_nil)))) (dss_cons (ds_sub (de_bin op_add4 ops_add (de_ix (de_var 0) (de_int)) (de_int)) (de_var 0) (de_int)) (dss_one (ds_if (dt_cmp op_ge ops_ge (de_var 2) (de_bin op_pow ops_pow (de_int) (de_int)) (nomark _)) (dss_one (ds_sub (de_var 2) (de_var 0) (de_int))) (dss_one (ds_sub (de_bin op_add4 ops_add (de_bin op_mod ops_mod (de_callTy call_int1 cs_int Tx.n_int PyProof.Rows.boot_int (da_cons (de_bin op_add4 ops_add (de_bin op_mulU ops_mulU (de_ix (de_var 0) (de_int)) (de_int)) (de_var 2)) (da_nil))) (de_int)) (de_int)) (de_var 0) (de_int))))))) (dss_nil)) (dss_cons (ds_if (dt_cmp op_gt ops_gt (de_ix (de_var 0) (de_int)) (de_int) (nomark _)) (dss_cons (ds_set 3 ND (de_bin op_mod ops_mod (de_callTy call_int1 cs_int Tx.n_int PyProof.Rows.boot_int (da_cons (de_ix (de_var 0) (de_int)) (da_nil))) (de_var 1))) (dss_cons (ds_sub (de_bin op_fdiv ops_fdiv (de_ix (de_var 0) (de_int)) (de_var 1)) (de_var 0) (de_int)) (dss_one (ds_ret (de_var 3))))) (dss_nil)) (dss_cons (ds_sub (de_bin op_mod ops_mod (de_callTy call_int1 cs_int Tx.n_int PyProof.Rows.boot_int (da_cons (de_bin op_mulU ops_mulU (de_ix (de_var 0) (de_int)) (de_int)) (da_nil))) (de_int)) (de_var 0) (de_int)) (dss_one (ds_ret (de_bin op_mod ops_mod (de_callTy call_int1 cs_int Tx.n_int PyProof.Rows.boot_int (da_cons (de_bin op_add4 ops_add (de_bin op_fdiv ops_fdiv (de_ix (de_var 0) (de_int)) (de_int)) (de_bin op_mod ops_mod (de_callTy call_int1 cs_int Tx.n_int PyProof.Rows.boot_int (da_cons (de_bin op_mulU ops_mulU (de_ix (de_var 0) (de_int)) (de_ix (de_var 0) (de_int))) (da_nil))) (de_int))) (da_nil))) (de_var 1))))))) (fun _ _ _ h => h)
theorem sc_taken_place : FnScope N_taken_place ["maker", "place", "rate", "takes"] (defScope s_taken_place) := ⟨rfl, rfl, rfl, by decide +kernel, rfl, by decide +kernel, by decide +kernel⟩
theorem ok_taken_place (Tx : Txt K P mg a) (TT : ∀ p ∈ a.cs, LamX.TabB base mg p.1 p.2) : FnOk P w K mg base (L2.CX P w) 5 a.f_taken_place a.fd_taken_place ["maker", "place", "rate", "takes"] (spF (kt K P w a) 4 m_taken_place) := by
  have G_QueuePlace_room := ok_QueuePlace_room (P := P) (w := w) (base := base) Tx TT
  have G_NodeMaker_pick := ok_NodeMaker_pick (P := P) (w := w) (base := base) Tx TT
  have G_QueuePlace_width := ok_QueuePlace_width (P := P) (w := w) (base := base) Tx TT
  have G_QueuePlace_init := ok_QueuePlace_init (P := P) (w := w) (base := base) Tx TT
  have ND := sc_taken_place.nd
  exact fn_ok (T := kt K P w a) (k := 4) false Tx.F_taken_place sc_taken_place (fun cdv A outer s H E hr tk po => dss_cons (ds_par3 4 5 6 rfl ND (da_cons (de_meth0 38 tk Tx.me_QueuePlace_room (insB_ok Tx.in_QueuePlace) (by decide +kernel : ¬ ("room" : Str) ∈ flds) G_QueuePlace_room (hr.mono (by decide)) Tx.b_QueuePlace_room (de_var 1)) (da_cons (de_own (da_nil)) (da_cons (de_own (da_nil)) (da_nil))))) (dss_cons (ds_for po rfl (di_range1 (de_var 4) Tx.n_range) (dg_name 7 ND) (dss_cons (ds_set 8 ND (de_cmp op_lt ops_lt (de_bin op_add4 ops_add (de_var 7) (de_var 2)) (de_var 4) (nomark _))) (dss_cons (ds_expr (de_append (de_var 5) (de_meth 33 tk Tx.me_NodeMaker_pick (insB_ok Tx.in_NodeMaker) (by decide +kernel : ¬ ("pick" : Str) ∈ flds) G_NodeMaker_pick (hr.mono (by decide)) Tx.b_NodeMaker_pick (de_var 0) (da_cons (de_var 3) (da_cons (de_if (dt_val (de_var 8)) (de_ix (de_fld 53 (by decide : 53 < 67) (de_var 1)) (de_bin op_add4 ops_add (de_var 7) (de_var 2))) (de_int)) (da_cons (de_ix (de_fld 53 (by decide : 53 < 67) (de_var 1)) (de_var 7)) (da_nil))))))) (dss_cons (ds_set 9 ND (de_if (dt_val (de_var 8)) (de_ix (de_fld 54 (by decide : 54 < 67) (de_var 1)) (de_bin op_add4 ops_add (de_var 7) (de_var 2))) (de_bin op_mulU ops_mulU (de_tup (da_cons (de_int) (da_nil))) (de_meth0 38 tk Tx.me_QueuePlace_width (insB_ok Tx.in_QueuePlace) (by decide +kernel : ¬ ("width" : Str) ∈ flds) G_QueuePlace_width (hr.mono (by decide)) Tx.b_QueuePlace_width (de_var 1))))) (dss_one (ds_expr (de_append (de_var 6) (de_callTy call_tuple_of cs_tuple Tx.n_tuple PyProof.Rows.boot_tuple (da_cons (de_lc (own := [("j", 10)]) rfl ND (di_range1 (de_meth0 38 tk Tx.me_QueuePlace_width (insB_ok Tx.in_QueuePlace) (by decide +kernel : ¬ ("width" : Str) ∈ flds) G_QueuePlace_width (hr.mono (by decide)) Tx.b_QueuePlace_width (de_var 1)) Tx.n_range) (blkOk_by (by kernel_rfl)) (by decide) (fun b => dg_name 10 ND) (fun b => dts_nil) (fun b => de_meth 33 VM.takes0 Tx.me_NodeMaker_pick (insB_ok Tx.in_NodeMaker) (by decide +kernel : ¬ ("pick" : Str) ∈ flds) G_NodeMaker_pick (hr.mono (by decide)) Tx.b_NodeMaker_pick (de_var 0) (da_cons (de_var 3) (da_cons (de_ix (de_var 9) (de_var 10)) (da_cons (de_ix (de_ix (de_fld 54 (by decide : 54 < 67) (de_var 1)) (de_var 7)) (de_var 10)) (da_nil)))))) (da_nil)))))))))) (dss_one (ds_ret (de_make false 38 tk Tx.mk_QueuePlace (insB_ok Tx.in_QueuePlace) G_QueuePlace_init (hr.mono (by decide)) Tx.a_QueuePlace Tx.b_QueuePlace_init (da_cons (de_var 5) (da_cons (de_var 6) (da_nil)))))))) (fun _ _ _ h => h)
theorem sc__law_bits : FnScope N__law_bits ["state", "size"] (defScope s__law_bits) := ⟨rfl, rfl, rfl, by decide +kernel, rfl, by decide +kernel, by decide +kernel⟩
theorem ok__law_bits (Tx : Txt K P mg a) (TT : ∀ p ∈ a.cs, LamX.TabB base mg p.1 p.2) : FnOk P w K mg base (L2.CX P w) 3 a.f__law_bits a.fd__law_bits ["state", "size"] (spF (kt K P w a) 2 m__law_bits) := by
  have G__law_pick := ok__law_pick (P := P) (w := w) (base := base) Tx TT
  have ND := sc__law_bits.nd
  exact fn_ok (T := kt K P w a) (k := 2) false Tx.F__law_bits sc__law_bits (fun cdv A outer s H E hr tk po => dss_one (ds_ret (de_callTy call_tuple_of cs_tuple Tx.n_tuple PyProof.Rows.boot_tuple (da_cons (de_lc (own := [("k", 2)]) rfl ND (di_range1 (de_var 1) Tx.n_range) (blkOk_by (by kernel_rfl)) (by decide) (fun b => dg_name 2 ND) (fun b => dts_nil) (fun b => de_call VM.takes0 G__law_pick (hr.mono (by decide)) Tx.m__law_pick Tx.F__law_pick.kp Tx.b__law_pick (da_cons (de_var 0) (da_cons (de_int) (da_nil))))) (da_nil))))) (fun _ _ _ h => h)
theorem sc_queue_names : FnScope N_queue_names ["name", "room", "width"] (defScope s_queue_names) := ⟨rfl, rfl, rfl, by decide +kernel, rfl, by decide +kernel, by decide +kernel⟩
theorem ok_queue_names (Tx : Txt K P mg a) (TT : ∀ p ∈ a.cs, LamX.TabB base mg p.1 p.2) : FnOk P w K mg base (L2.CX P w) 1 a.f_queue_names a.fd_queue_names ["name", "room", "width"] (spF (kt K P w a) 3 m_queue_names) := by
  have ND := sc_queue_names.nd
  exact fn_ok (T := kt K P w a) (k := 0) false Tx.F_queue_names sc_queue_names (fun cdv A outer s H E hr tk po => dss_cons (ds_setLc (own := [("k", 4)]) 3 rfl ND (di_range1 (de_var 1) Tx.n_range) (blkOk_by (by kernel_rfl)) (by decide) (fun b => dg_name 4 ND) (fun b => dts_nil) (fun b => de_bin op_add4 ops_add (de_bin op_add4 ops_add (de_var 0) (de_str)) (de_callTy call_str_int cs_str Tx.n_str (by decide +kernel) (da_cons (de_var 4) (da_nil)))) (sw_true rfl rfl rfl (by decide +kernel))) (dss_one (ds_ret (de_bin op_add4 ops_add (de_var 3) (de_lc2 (own := [("k", 4), ("j", 5)]) (vs1 := [5]) rfl ND (di_range1 (de_var 1) Tx.n_range) (blkOk_by (by kernel_rfl)) (by decide) (by decide) (by decide) (fun b => dg_name 4 ND) (fun b => dts_nil) (fun b => di_range1 (de_var 2) Tx.n_range) (fun b => dg_name 5 ND) (fun b => dts_nil) (fun b => de_bin op_add4 ops_add (de_bin op_add4 ops_add (de_bin op_add4 ops_add (de_bin op_add4 ops_add (de_var 0) (de_str)) (de_callTy call_str_int cs_str Tx.n_str (by decide +kernel) (da_cons (de_var 4) (da_nil)))) (de_str)) (de_callTy call_str_int cs_str Tx.n_str (by decide +kernel) (da_cons (de_var 5) (da_nil))))))))) (fun _ _ _ h => h)
theorem sc_queue_sources : FnScope N_queue_sources ["place"] (defScope s_queue_sources) := ⟨rfl, rfl, rfl, by decide +kernel, rfl, by decide +kernel, by decide +kernel⟩
theorem ok_queue_sources (Tx : Txt K P mg a) (TT : ∀ p ∈ a.cs, LamX.TabB base mg p.1 p.2) : FnOk P w K mg base (L2.CX P w) 1 a.f_queue_sources a.fd_queue_sources ["place"] (spF (kt K P w a) 1 m_queue_sources) := by
  have ND := sc_queue_sources.nd
  exact fn_ok (T := kt K P w a) (k := 0) false Tx.F_queue_sources sc_queue_sources (fun cdv A outer s H E hr tk po => dss_one (ds_ret (de_bin op_add4 ops_add (de_callTy call_list_of cs_list Tx.n_list PyProof.Rows.boot_list (da_cons (de_fld 53 (by decide : 53 < 67) (de_var 0)) (da_nil))) (de_lc2 (own := [("row", 1), ("one", 2)]) (vs1 := [2]) rfl ND (di_any (de_fld 54 (by decide : 54 < 67) (de_var 0))) (blkOk_by (by kernel_rfl)) (by decide) (by decide) (by decide) (fun b => dg_name 1 ND) (fun b => dts_nil) (fun b => di_any (de_var 1)) (fun b => dg_name 2 ND) (fun b => dts_nil) (fun b => de_var 2))))) (fun _ _ _ h => h)
theorem sc__law_told : FnScope N__law_told ["words", "room", "width"] (defScope s__law_told) := ⟨rfl, rfl, rfl, by decide +kernel, rfl, by decide +kernel, by decide +kernel⟩
theorem ok__law_told (Tx : Txt K P mg a) (TT : ∀ p ∈ a.cs, LamX.TabB base mg p.1 p.2) : FnOk P w K mg base (L2.CX P w) 1 a.f__law_told a.fd__law_told ["words", "room", "width"] (spF (kt K P w a) 3 m__law_told) := by
  have ND := sc__law_told.nd
  exact fn_ok (T := kt K P w a) (k := 0) false Tx.F__law_told sc__law_told (fun cdv A outer s H E hr tk po => dss_cons (ds_setLc (own := [("k", 4)]) 3 rfl ND (di_range1 (de_var 1) Tx.n_range) (blkOk_by (by kernel_rfl)) (by decide) (fun b => dg_name 4 ND) (fun b => dts_nil) (fun b => de_callTy call_int1 cs_int Tx.n_int PyProof.Rows.boot_int (da_cons (de_cmp op_gt ops_gt (de_callB call_len cs_len Tx.n_len PySem.boot_len (da_cons (de_var 0) (da_nil))) (de_var 4) (nomark _)) (da_nil))) (sw_true rfl rfl rfl (by decide +kernel))) (dss_cons (ds_for po rfl (di_range1 (de_var 1) Tx.n_range) (dg_name 4 ND) (dss_cons (ds_set 5 ND (de_ix (de_bin op_add4 ops_add (de_callTy call_list_of cs_list Tx.n_list PyProof.Rows.boot_list (da_cons (de_var 0) (da_nil))) (de_bin op_mulU ops_mulU (de_lst (da_cons (de_int) (da_nil))) (de_var 1))) (de_var 4))) (dss_one (ds_set 3 ND (de_bin op_add4 ops_add (de_var 3) (de_lc (own := [("j", 6)]) rfl ND (di_range1 (de_var 2) Tx.n_range) (blkOk_by (by kernel_rfl)) (by decide) (fun b => dg_name 6 ND) (fun b => dts_nil) (fun b => de_bin op_and ops_and (de_bin op_shr ops_shr (de_var 5) (de_var 6)) (de_int)))))))) (dss_one (ds_ret (de_callTy call_tuple_of cs_tuple Tx.n_tuple PyProof.Rows.boot_tuple (da_cons (de_var 3) (da_nil))))))) (fun _ _ _ h => h)
theorem sc_node_told : FnScope N_node_told ["node", "values"] (defScope s_node_told) := ⟨rfl, rfl, rfl, by decide +kernel, rfl, by decide +kernel, by decide +kernel⟩
theorem ok_node_told (Tx : Txt K P mg a) (TT : ∀ p ∈ a.cs, LamX.TabB base mg p.1 p.2) : FnOk P w K mg base (L2.CX P w) 1 a.f_node_told a.fd_node_told ["node", "values"] (spF (kt K P w a) 2 m_node_told) := by
  have ND := sc_node_told.nd
  exact fn_ok (T := kt K P w a) (k := 0) false Tx.F_node_told sc_node_told (fun cdv A outer s H E hr tk po => dss_cons (ds_set 2 ND (de_int)) (dss_cons (ds_for po rfl (di_range1 (de_callB call_len cs_len Tx.n_len PySem.boot_len (da_cons (de_ix (de_var 0) (de_int)) (da_nil))) Tx.n_range) (dg_name 3 ND) (dss_one (ds_aug 2 ND iop_addI ops_addI (de_bin op_shl ops_shl (de_ix (de_var 1) (de_ix (de_ix (de_var 0) (de_int)) (de_var 3))) (de_var 3))))) (dss_one (ds_ret (de_bin op_and ops_and (de_bin op_shr ops_shr (de_ix (de_var 0) (de_int)) (de_var 2)) (de_int)))))) (fun _ _ _ h => h)
theorem sc_net_values : FnScope N_net_values ["net", "state", "inputs"] (defScope s_net_values) := ⟨rfl, rfl, rfl, by decide +kernel, rfl, by decide +kernel, by decide +kernel⟩
theorem ok_net_values (Tx : Txt K P mg a) (TT : ∀ p ∈ a.cs, LamX.TabB base mg p.1 p.2) : FnOk P w K mg base (L2.CX P w) 3 a.f_net_values a.fd_net_values ["net", "state", "inputs"] (spF (kt K P w a) 3 m_net_values) := by
  have G_node_told := ok_node_told (P := P) (w := w) (base := base) Tx TT
  have ND := sc_net_values.nd
  exact fn_ok (T := kt K P w a) (k := 2) false Tx.F_net_values sc_net_values (fun cdv A outer s H E hr tk po => dss_cons (ds_set 3 ND (de_catO (de_bin op_add4 ops_add (de_lst (da_cons (de_int) (da_cons (de_int) (da_nil)))) (de_callTy call_list_of cs_list Tx.n_list PyProof.Rows.boot_list (da_cons (de_var 2) (da_nil)))) (de_callTy call_list_of cs_list Tx.n_list PyProof.Rows.boot_list (da_cons (de_var 1) (da_nil))))) (dss_cons (ds_for po rfl (di_any (de_fld 44 (by decide : 44 < 67) (de_var 0))) (dg_name 4 ND) (dss_one (ds_expr (de_append (de_var 3) (de_call tk G_node_told (hr.mono (by decide)) Tx.m_node_told Tx.F_node_told.kp Tx.b_node_told (da_cons (de_var 4) (da_cons (de_var 3) (da_nil)))))))) (dss_one (ds_ret (de_var 3))))) (fun _ _ _ h => h)
theorem sc_is_bits : FnScope N_is_bits ["value", "size"] (defScope s_is_bits) := ⟨rfl, rfl, rfl, by decide +kernel, rfl, by decide +kernel, by decide +kernel⟩
theorem ok_is_bits (Tx : Txt K P mg a) (TT : ∀ p ∈ a.cs, LamX.TabB base mg p.1 p.2) : FnOk P w K mg base (L2.CX P w) 5 a.f_is_bits a.fd_is_bits ["value", "size"] (spF (kt K P w a) 2 m_is_bits) := by
  have G_is_word := ok_is_word (P := P) (w := w) (base := base) Tx TT
  have ND := sc_is_bits.nd
  exact fn_ok (T := kt K P w a) (k := 4) false Tx.F_is_bits sc_is_bits (fun cdv A outer s H E hr tk po => dss_one (ds_ret (de_and (de_isi TN.tuple (de_var 0) Tx.n_isinstance Tx.n_tuple) (de_and (de_cmp (op_eqU hr.units) ops_eq (de_callB call_len cs_len Tx.n_len PySem.boot_len (da_cons (de_var 0) (da_nil))) (de_var 1) (nomark _)) (de_one (de_callB (cr_all rfl) cs_all Tx.n_all (by decide +kernel) (da_cons (de_lc (own := [("one", 2)]) rfl ND (di_any (de_var 0)) (blkOk_by (by kernel_rfl)) (by decide) (fun b => dg_name 2 ND) (fun b => dts_nil) (fun b => de_call VM.takes0 G_is_word (hr.mono (by decide)) Tx.m_is_word Tx.F_is_word.kp Tx.b_is_word (da_cons (de_var 2) (da_cons (de_int) (da_nil))))) (da_nil)))))))) (fun _ _ _ h => h)
theorem sc_net_cycle : FnScope N_net_cycle ["net", "state", "inputs"] (defScope s_net_cycle) := ⟨rfl, rfl, rfl, by decide +kernel, rfl, by decide +kernel, by decide +kernel⟩
theorem ok_net_cycle (Tx : Txt K P mg a) (TT : ∀ p ∈ a.cs, LamX.TabB base mg p.1 p.2) : FnOk P w K mg base (L2.CX P w) 7 a.f_net_cycle a.fd_net_cycle ["net", "state", "inputs"] (spF (kt K P w a) 3 m_net_cycle) := by
  have G_is_bits := ok_is_bits (P := P) (w := w) (base := base) Tx TT
  have G_net_values := ok_net_values (P := P) (w := w) (base := base) Tx TT
  have ND := sc_net_cycle.nd
  exact fn_ok (T := kt K P w a) (k := 6) false Tx.F_net_cycle sc_net_cycle (fun cdv A outer s H E hr tk po => dss_cons (ds_if (DW.t (dw_or (dt_not (dt_val (de_call tk G_is_bits (hr.mono (by decide)) Tx.m_is_bits Tx.F_is_bits.kp Tx.b_is_bits (da_cons (de_var 1) (da_cons (de_callB call_len cs_len Tx.n_len PySem.boot_len (da_cons (de_fld 41 (by decide : 41 < 67) (de_var 0)) (da_nil))) (da_nil)))))) (dw_or1 (dt_not (dt_val (de_call tk G_is_bits (hr.mono (by decide)) Tx.m_is_bits Tx.F_is_bits.kp Tx.b_is_bits (da_cons (de_var 2) (da_cons (de_callB call_len cs_len Tx.n_len PySem.boot_len (da_cons (de_fld 20 (by decide : 20 < 67) (de_var 0)) (da_nil))) (da_nil))))))))) (dss_one (ds_raise 6 rfl tk (er_InvalidNet Tx) (hr.mono (by decide)) (de_tup (da_cons (de_str) (da_cons (de_non) (da_nil)))))) (dss_nil)) (dss_cons (ds_set 3 ND (de_call tk G_net_values (hr.mono (by decide)) Tx.m_net_values Tx.F_net_values.kp Tx.b_net_values (da_cons (de_var 0) (da_cons (de_var 1) (da_cons (de_var 2) (da_nil)))))) (dss_one (ds_ret (de_tup (da_cons (de_callTy call_tuple_of cs_tuple Tx.n_tuple PyProof.Rows.boot_tuple (da_cons (de_lc (own := [("name", 4), ("one", 5)]) rfl ND (di_any (de_fld 21 (by decide : 21 < 67) (de_var 0))) (blkOk_by (by kernel_rfl)) (by decide) (fun b => dg_tup rfl (dgs_cons (dg_name 4 ND) (dgs_cons (dg_name 5 ND) (dgs_nil)))) (fun b => dts_nil) (fun b => de_ix (de_var 3) (de_var 5))) (da_nil))) (da_cons (de_callTy call_tuple_of cs_tuple Tx.n_tuple PyProof.Rows.boot_tuple (da_cons (de_lc (own := [("name", 4), ("start", 6), ("one", 5)]) rfl ND (di_any (de_fld 41 (by decide : 41 < 67) (de_var 0))) (blkOk_by (by kernel_rfl)) (by decide) (fun b => dg_tup rfl (dgs_cons (dg_name 4 ND) (dgs_cons (dg_name 6 ND) (dgs_cons (dg_name 5 ND) (dgs_nil))))) (fun b => dts_nil) (fun b => de_ix (de_var 3) (de_var 5))) (da_nil))) (da_nil)))))))) (fun _ _ _ h => h)
theorem sc__law_same : FnScope N__law_same ["told", "due"] (defScope s__law_same) := ⟨rfl, rfl, rfl, by decide +kernel, rfl, by decide +kernel, by decide +kernel⟩
theorem ok__law_same : ∀ (n : Nat) (Tx : Txt K P mg a) (TT : ∀ p ∈ a.cs, LamX.TabB base mg p.1 p.2), FnOk P w K mg base (L2.CX P w) (0 + n) a.f__law_same a.fd__law_same ["told", "due"] (spF (kt K P w a) 2 (m__law_same n))
  | 0, _, _ => fn_none (T := kt K P w a) rfl
  | n + 1, Tx, TT => by
    have G_rec := ok__law_same n Tx TT
    have ND := sc__law_same.nd
    exact fn_ok (T := kt K P w a) (k := 0 + n) false Tx.F__law_same sc__law_same (fun cdv A outer s H E hr tk po => dss_cons (ds_if (dt_cmp op_isN ops_isN (de_var 1) (de_non) (nomark _)) (dss_one (ds_ret (de_cmp op_isN ops_isN (de_var 0) (de_non) (nomark _)))) (dss_nil)) (dss_cons (ds_if (dt_val (de_isi TN.bool (de_var 1) Tx.n_isinstance Tx.n_bool)) (dss_one (ds_ret (de_and (de_isi TN.bool (de_var 0) Tx.n_isinstance Tx.n_bool) (de_one (de_cmp (op_eqU hr.units) ops_eq (de_var 0) (de_var 1) (nomark _)))))) (dss_nil)) (dss_cons (ds_if (dt_val (de_isi TN.int (de_var 1) Tx.n_isinstance Tx.n_int)) (dss_one (ds_ret (de_and (de_isi TN.int (de_var 0) Tx.n_isinstance Tx.n_int) (de_and (de_not (de_isi TN.bool (de_var 0) Tx.n_isinstance Tx.n_bool)) (de_one (de_cmp (op_eqU hr.units) ops_eq (de_var 0) (de_var 1) (nomark _))))))) (dss_nil)) (dss_cons (ds_if (dt_val (de_isi TN.str (de_var 1) Tx.n_isinstance Tx.n_str)) (dss_one (ds_ret (de_and (de_isi TN.str (de_var 0) Tx.n_isinstance Tx.n_str) (de_one (de_cmp (op_eqU hr.units) ops_eq (de_var 0) (de_var 1) (nomark _)))))) (dss_nil)) (dss_cons (ds_if (DW.t (dw_or (DW.t (dw_and (dt_val (de_isi TN.list (de_var 1) Tx.n_isinstance Tx.n_list)) (dw_and1 (dt_not (dt_val (de_isi TN.list (de_var 0) Tx.n_isinstance Tx.n_list)))))) (dw_or1 (DW.t (dw_and (dt_val (de_isi TN.tuple (de_var 1) Tx.n_isinstance Tx.n_tuple)) (dw_and1 (dt_not (dt_val (de_isi TN.tuple (de_var 0) Tx.n_isinstance Tx.n_tuple))))))))) (dss_one (ds_ret (de_bl))) (dss_nil)) (dss_one (ds_ret (de_and (de_cmp (op_eqU hr.units) ops_eq (de_callB call_len cs_len Tx.n_len PySem.boot_len (da_cons (de_var 0) (da_nil))) (de_callB call_len cs_len Tx.n_len PySem.boot_len (da_cons (de_var 1) (da_nil))) (nomark _)) (de_one (de_cmp (op_eqU hr.units) ops_eq (de_lc (own := [("k", 2)]) rfl ND (di_range1 (de_callB call_len cs_len Tx.n_len PySem.boot_len (da_cons (de_var 1) (da_nil))) Tx.n_range) (blkOk_by (by kernel_rfl)) (by decide) (fun b => dg_name 2 ND) (fun b => dts_one (dt_not (dt_val (de_call VM.takes0 G_rec (hr.mono (by omega)) Tx.m__law_same Tx.F__law_same.kp Tx.b__law_same (da_cons (de_ix (de_var 0) (de_var 2)) (da_cons (de_ix (de_var 1) (de_var 2)) (da_nil))))))) (fun b => de_int)) (de_lst (da_nil)) (nomark _))))))))))) (fun _ _ _ h => h)
theorem sc_has_words : FnScope N_has_words ["place", "count"] (defScope s_has_words) := ⟨rfl, rfl, rfl, by decide +kernel, rfl, by decide +kernel, by decide +kernel⟩
theorem ok_has_words (Tx : Txt K P mg a) (TT : ∀ p ∈ a.cs, LamX.TabB base mg p.1 p.2) : FnOk P w K mg base (L2.CX P w) 1 a.f_has_words a.fd_has_words ["place", "count"] (spF (kt K P w a) 2 m_has_words) := by
  have ND := sc_has_words.nd
  exact fn_ok (T := kt K P w a) (k := 0) false Tx.F_has_words sc_has_words (fun cdv A outer s H E hr tk po => dss_one (ds_ret (de_ix (de_fld 53 (by decide : 53 < 67) (de_var 0)) (de_bin op_sub ops_sub (de_var 1) (de_int))))) (fun _ _ _ h => h)
theorem sc_has_place_for : FnScope N_has_place_for ["maker", "place", "count"] (defScope s_has_place_for) := ⟨rfl, rfl, rfl, by decide +kernel, rfl, by decide +kernel, by decide +kernel⟩
theorem ok_has_place_for (Tx : Txt K P mg a) (TT : ∀ p ∈ a.cs, LamX.TabB base mg p.1 p.2) : FnOk P w K mg base (L2.CX P w) 5 a.f_has_place_for a.fd_has_place_for ["maker", "place", "count"] (spF (kt K P w a) 3 m_has_place_for) := by
  have G_NodeMaker_turned := ok_NodeMaker_turned (P := P) (w := w) (base := base) Tx TT
  have G_QueuePlace_room := ok_QueuePlace_room (P := P) (w := w) (base := base) Tx TT
  have ND := sc_has_place_for.nd
  exact fn_ok (T := kt K P w a) (k := 4) false Tx.F_has_place_for sc_has_place_for (fun cdv A outer s H E hr tk po => dss_one (ds_ret (de_meth 33 tk Tx.me_NodeMaker_turned (insB_ok Tx.in_NodeMaker) (by decide +kernel : ¬ ("turned" : Str) ∈ flds) G_NodeMaker_turned (hr.mono (by decide)) Tx.b_NodeMaker_turned (de_var 0) (da_cons (de_ix (de_fld 53 (by decide : 53 < 67) (de_var 1)) (de_bin op_sub ops_sub (de_meth0 38 tk Tx.me_QueuePlace_room (insB_ok Tx.in_QueuePlace) (by decide +kernel : ¬ ("room" : Str) ∈ flds) G_QueuePlace_room (hr.mono (by decide)) Tx.b_QueuePlace_room (de_var 1)) (de_var 2))) (da_nil))))) (fun _ _ _ h => h)
theorem sc_queue_bits : FnScope N_queue_bits ["words", "room", "width"] (defScope s_queue_bits) := ⟨rfl, rfl, rfl, by decide +kernel, rfl, by decide +kernel, by decide +kernel⟩
theorem ok_queue_bits (Tx : Txt K P mg a) (TT : ∀ p ∈ a.cs, LamX.TabB base mg p.1 p.2) : FnOk P w K mg base (L2.CX P w) 1 a.f_queue_bits a.fd_queue_bits ["words", "room", "width"] (spF (kt K P w a) 3 m_queue_bits) := by
  have ND := sc_queue_bits.nd
  exact fn_ok (T := kt K P w a) (k := 0) false Tx.F_queue_bits sc_queue_bits (fun cdv A outer s H E hr tk po => dss_cons (ds_setLcO (own := [("k", 4)]) 3 rfl ND (di_range1 (de_var 1) Tx.n_range) (blkOk_by (by kernel_rfl)) (by decide) (fun b => dg_name 4 ND) (fun b => dts_nil) (fun b => de_callTy call_int1 cs_int Tx.n_int PyProof.Rows.boot_int (da_cons (de_cmp op_lt ops_lt (de_var 4) (de_callB call_len cs_len Tx.n_len PySem.boot_len (da_cons (de_var 0) (da_nil))) (nomark _)) (da_nil))) (sw_true rfl rfl rfl (by decide +kernel))) (dss_cons (ds_for po rfl (di_range1 (de_var 1) Tx.n_range) (dg_name 4 ND) (dss_cons (ds_set 5 ND (de_if (dt_cmp op_lt ops_lt (de_var 4) (de_callB call_len cs_len Tx.n_len PySem.boot_len (da_cons (de_var 0) (da_nil))) (nomark _)) (de_ix (de_var 0) (de_var 4)) (de_int))) (dss_one (ds_augX 3 ND (de_lc (own := [("j", 6)]) rfl ND (di_range1 (de_var 2) Tx.n_range) (blkOk_by (by kernel_rfl)) (by decide) (fun b => dg_name 6 ND) (fun b => dts_nil) (fun b => de_bin op_and ops_and (de_bin op_shr ops_shr (de_var 5) (de_var 6)) (de_int))))))) (dss_one (ds_ret (de_callTy call_tuple_of cs_tuple Tx.n_tuple PyProof.Rows.boot_tuple (da_cons (de_var 3) (da_nil))))))) (fun _ _ _ h => h)
theorem sc_queue_of_bits : FnScope N_queue_of_bits ["bits", "room", "width"] (defScope s_queue_of_bits) := ⟨rfl, rfl, rfl, by decide +kernel, rfl, by decide +kernel, by decide +kernel⟩
theorem ok_queue_of_bits (Tx : Txt K P mg a) (TT : ∀ p ∈ a.cs, LamX.TabB base mg p.1 p.2) : FnOk P w K mg base (L2.CX P w) 3 a.f_queue_of_bits a.fd_queue_of_bits ["bits", "room", "width"] (spF (kt K P w a) 3 m_queue_of_bits) := by
  have G_queue_bits := ok_queue_bits (P := P) (w := w) (base := base) Tx TT
  have ND := sc_queue_of_bits.nd
  exact fn_ok (T := kt K P w a) (k := 2) false Tx.F_queue_of_bits sc_queue_of_bits (fun cdv A outer s H E hr tk po => dss_cons (ds_set 3 ND (de_callB (cr_sum2 rfl) cs_sum2 Tx.n_sum (by decide +kernel) (da_cons (de_slice (de_var 0) (do_none) (do_some (de_var 1))) (da_nil)))) (dss_cons (ds_set 4 ND (de_own (da_nil))) (dss_cons (ds_for po rfl (di_range1 (de_var 1) Tx.n_range) (dg_name 5 ND) (dss_cons (ds_set 6 ND (de_bin op_add4 ops_add (de_var 1) (de_bin op_mulU ops_mulU (de_var 5) (de_var 2)))) (dss_one (ds_expr (de_append (de_var 4) (de_callB (cr_sum2 rfl) cs_sum2 Tx.n_sum (by decide +kernel) (da_cons (de_lc (own := [("j", 7)]) rfl ND (di_range1 (de_var 2) Tx.n_range) (blkOk_by (by kernel_rfl)) (by decide) (fun b => dg_name 7 ND) (fun b => dts_nil) (fun b => de_bin op_shl ops_shl (de_ix (de_var 0) (de_bin op_add4 ops_add (de_var 6) (de_var 7))) (de_var 7))) (da_nil)))))))) (dss_cons (ds_if (dt_cmp (op_neU hr.units) ops_ne (de_callTy call_tuple_of cs_tuple Tx.n_tuple PyProof.Rows.boot_tuple (da_cons (de_var 0) (da_nil))) (de_call tk G_queue_bits (hr.mono (by decide)) Tx.m_queue_bits Tx.F_queue_bits.kp Tx.b_queue_bits (da_cons (de_slice (de_var 4) (do_none) (do_some (de_var 3))) (da_cons (de_var 1) (da_cons (de_var 2) (da_nil))))) (nomark _)) (dss_one (ds_ret (de_non))) (dss_nil)) (dss_one (ds_ret (de_callTy call_tuple_of cs_tuple Tx.n_tuple PyProof.Rows.boot_tuple (da_cons (de_slice (de_var 4) (do_none) (do_some (de_var 3))) (da_nil))))))))) (fun _ _ _ h => h)
theorem sc__law_back : FnScope N__law_back ["bits", "room", "width"] (defScope s__law_back) := ⟨rfl, rfl, rfl, by decide +kernel, rfl, by decide +kernel, by decide +kernel⟩
theorem ok__law_back (Tx : Txt K P mg a) (TT : ∀ p ∈ a.cs, LamX.TabB base mg p.1 p.2) : FnOk P w K mg base (L2.CX P w) 3 a.f__law_back a.fd__law_back ["bits", "room", "width"] (spF (kt K P w a) 3 m__law_back) := by
  have G__law_told := ok__law_told (P := P) (w := w) (base := base) Tx TT
  have ND := sc__law_back.nd
  exact fn_ok (T := kt K P w a) (k := 2) false Tx.F__law_back sc__law_back (fun cdv A outer s H E hr tk po => dss_cons (ds_for po rfl (di_range1 (de_bin op_add4 ops_add (de_var 1) (de_int)) Tx.n_range) (dg_name 3 ND) (dss_cons (ds_set 4 ND (de_own (da_nil))) (dss_cons (ds_for po rfl (di_range1 (de_var 3) Tx.n_range) (dg_name 5 ND) (dss_one (ds_expr (de_append (de_var 4) (de_callB (cr_sum2 rfl) cs_sum2 Tx.n_sum (by decide +kernel) (da_cons (de_lc (own := [("j", 6)]) rfl ND (di_range1 (de_var 2) Tx.n_range) (blkOk_by (by kernel_rfl)) (by decide) (fun b => dg_name 6 ND) (fun b => dts_nil) (fun b => de_bin op_mulU ops_mulU (de_ix (de_var 0) (de_bin op_add4 ops_add (de_bin op_add4 ops_add (de_var 1) (de_bin op_mulU ops_mulU (de_var 5) (de_var 2))) (de_var 6))) (de_bin op_shl ops_shl (de_int) (de_var 6)))) (da_nil))))))) (dss_one (ds_if (dt_cmp (op_eqU hr.units) ops_eq (de_call tk G__law_told (hr.mono (by decide)) Tx.m__law_told Tx.F__law_told.kp Tx.b__law_told (da_cons (de_var 4) (da_cons (de_var 1) (da_cons (de_var 2) (da_nil))))) (de_callTy call_tuple_of cs_tuple Tx.n_tuple PyProof.Rows.boot_tuple (da_cons (de_var 0) (da_nil))) (nomark _)) (dss_one (ds_ret (de_callTy call_tuple_of cs_tuple Tx.n_tuple PyProof.Rows.boot_tuple (da_cons (de_var 4) (da_nil))))) (dss_nil)))))) (dss_one (ds_ret (de_non)))) (fun _ _ _ h => h)
theorem sc_law : FnScope N_law ["script"] (defScope s_law) := ⟨rfl, rfl, rfl, by decide +kernel, rfl, by decide +kernel, by decide +kernel⟩
theorem ok_law (Tx : Txt K P mg a) (TT : ∀ p ∈ a.cs, LamX.TabB base mg p.1 p.2) : FnOk P w K mg base (L2.CX P w) 11 a.f_law a.fd_law ["script"] (spF (kt K P w a) 1 m_law) := by
  have G__law_start := ok__law_start (P := P) (w := w) (base := base) Tx TT
  have G__law_pick := ok__law_pick (P := P) (w := w) (base := base) Tx TT
  have G_NodeMaker_init := ok_NodeMaker_init (P := P) (w := w) (base := base) Tx TT
  have G_QueuePlace_init := ok_QueuePlace_init (P := P) (w := w) (base := base) Tx TT
  have G_put_place := ok_put_place (P := P) (w := w) (base := base) Tx TT
  have G_taken_place := ok_taken_place (P := P) (w := w) (base := base) Tx TT
  have G_queue_sources := ok_queue_sources (P := P) (w := w) (base := base) Tx TT
  have G_has_place_for := ok_has_place_for (P := P) (w := w) (base := base) Tx TT
  have G_has_words := ok_has_words (P := P) (w := w) (base := base) Tx TT
  have G_is_length := ok_is_length (P := P) (w := w) (base := base) Tx TT
  have G_Net_init := ok_Net_init (P := P) (w := w) (base := base) Tx TT
  have G_QueuePlace_room := ok_QueuePlace_room (P := P) (w := w) (base := base) Tx TT
  have G_QueuePlace_width := ok_QueuePlace_width (P := P) (w := w) (base := base) Tx TT
  have G__law_told := ok__law_told (P := P) (w := w) (base := base) Tx TT
  have G_net_cycle := ok_net_cycle (P := P) (w := w) (base := base) Tx TT
  have G_queue_bits := ok_queue_bits (P := P) (w := w) (base := base) Tx TT
  have G__law_same := ok__law_same (P := P) (w := w) (base := base) 8 Tx TT
  have G_queue_of_bits := ok_queue_of_bits (P := P) (w := w) (base := base) Tx TT
  have G__law_bits := ok__law_bits (P := P) (w := w) (base := base) Tx TT
  have G__law_back := ok__law_back (P := P) (w := w) (base := base) Tx TT
  have G_queue_names := ok_queue_names (P := P) (w := w) (base := base) Tx TT
  have ND := sc_law.nd
  exact fn_ok (T := kt K P w a) (k := 10) false Tx.F_law sc_law (fun cdv A outer s H E hr tk po => dss_cons (ds_set 1 ND (de_call tk G__law_start (hr.mono (by decide)) Tx.m__law_start Tx.F__law_start.kp Tx.b__law_start (da_cons (de_var 0) (da_nil)))) (dss_cons (ds_set 2 ND (de_bin op_add4 ops_add (de_int) (de_call tk G__law_pick (hr.mono (by decide)) Tx.m__law_pick Tx.F__law_pick.kp Tx.b__law_pick (da_cons (de_var 1) (da_cons (de_int) (da_nil)))))) (dss_cons (ds_set 3 ND (de_bin op_add4 ops_add (de_int) (de_call tk G__law_pick (hr.mono (by decide)) Tx.m__law_pick Tx.F__law_pick.kp Tx.b__law_pick (da_cons (de_var 1) (da_cons (de_int) (da_nil)))))) (dss_cons (ds_set 4 ND (de_bin op_add4 ops_add (de_int) (de_call tk G__law_pick (hr.mono (by decide)) Tx.m__law_pick Tx.F__law_pick.kp Tx.b__law_pick (da_cons (de_var 1) (da_cons (de_callB (call_min2 rfl) cs_min2 Tx.n_min (by decide +kernel) (da_cons (de_int) (da_cons (de_var 2) (da_nil)))) (da_nil)))))) (dss_cons (ds_set 5 ND (de_bin op_add4 ops_add (de_int) (de_call tk G__law_pick (hr.mono (by decide)) Tx.m__law_pick Tx.F__law_pick.kp Tx.b__law_pick (da_cons (de_var 1) (da_cons (de_callB (call_min2 rfl) cs_min2 Tx.n_min (by decide +kernel) (da_cons (de_int) (da_cons (de_var 2) (da_nil)))) (da_nil)))))) (dss_cons (ds_set 6 ND (de_int)) (dss_cons (ds_set 7 ND (de_tupRg (dr_2 (de_var 6) (de_bin op_add4 ops_add (de_var 6) (de_var 2)) Tx.n_range) Tx.n_tuple)) (dss_cons (ds_setLc (own := [("k", 28)]) 8 rfl ND (di_range1 (de_var 2) Tx.n_range) (blkOk_by (by kernel_rfl)) (by decide) (fun b => dg_name 28 ND) (fun b => dts_nil) (fun b => de_tupRg (dr_2 (de_bin op_add4 ops_add (de_bin op_add4 ops_add (de_var 6) (de_var 2)) (de_bin op_mulU ops_mulU (de_var 28) (de_var 3))) (de_bin op_add4 ops_add (de_bin op_add4 ops_add (de_bin op_add4 ops_add (de_var 6) (de_var 2)) (de_bin op_mulU ops_mulU (de_var 28) (de_var 3))) (de_var 3)) Tx.n_range) Tx.n_tuple) (sw_true rfl rfl rfl (by decide +kernel))) (dss_cons (ds_set 9 ND (de_bin op_add4 ops_add (de_bin op_add4 ops_add (de_var 6) (de_var 2)) (de_bin op_mulU ops_mulU (de_var 2) (de_var 3)))) (dss_cons (ds_setLc (own := [("k", 28)]) 10 rfl ND (di_range1 (de_var 5) Tx.n_range) (blkOk_by (by kernel_rfl)) (by decide) (fun b => dg_name 28 ND) (fun b => dts_nil) (fun b => de_tupRg (dr_2 (de_bin op_add4 ops_add (de_var 9) (de_bin op_mulU ops_mulU (de_var 28) (de_var 3))) (de_bin op_add4 ops_add (de_bin op_add4 ops_add (de_var 9) (de_bin op_mulU ops_mulU (de_var 28) (de_var 3))) (de_var 3)) Tx.n_range) Tx.n_tuple) (sw_true rfl rfl rfl (by decide +kernel))) (dss_cons (ds_set 11 ND (de_makeA 33 tk Tx.mk_NodeMaker (insB_ok Tx.in_NodeMaker) G_NodeMaker_init (hr.mono (by decide)) Tx.a_NodeMaker Tx.b_NodeMaker_init (da_cons (de_bin op_add4 ops_add (de_var 9) (de_bin op_mulU ops_mulU (de_var 5) (de_var 3))) (da_nil)))) (dss_cons (ds_set 12 ND (de_make false 38 tk Tx.mk_QueuePlace (insB_ok Tx.in_QueuePlace) G_QueuePlace_init (hr.mono (by decide)) Tx.a_QueuePlace Tx.b_QueuePlace_init (da_cons (de_var 7) (da_cons (de_var 8) (da_nil))))) (dss_cons (ds_set 13 ND (de_call tk G_put_place (hr.mono (by decide)) Tx.m_put_place Tx.F_put_place.kp Tx.b_put_place (da_cons (de_var 11) (da_cons (de_call tk G_taken_place (hr.mono (by decide)) Tx.m_taken_place Tx.F_taken_place.kp Tx.b_taken_place (da_cons (de_var 11) (da_cons (de_var 12) (da_cons (de_var 4) (da_cons (de_int) (da_nil)))))) (da_cons (de_var 10) (da_cons (de_int) (da_nil))))))) (dss_cons (ds_set 14 ND (de_bin op_add4 ops_add (de_bin op_add4 ops_add (de_call tk G_queue_sources (hr.mono (by decide)) Tx.m_queue_sources Tx.F_queue_sources.kp Tx.b_queue_sources (da_cons (de_var 13) (da_nil))) (de_lst (da_cons (de_call tk G_has_words (hr.mono (by decide)) Tx.m_has_words Tx.F_has_words.kp Tx.b_has_words (da_cons (de_var 12) (da_cons (de_var 4) (da_nil)))) (da_cons (de_call tk G_has_place_for (hr.mono (by decide)) Tx.m_has_place_for Tx.F_has_place_for.kp Tx.b_has_place_for (da_cons (de_var 11) (da_cons (de_var 12) (da_cons (de_var 5) (da_nil))))) (da_nil))))) (de_lc (own := [("k", 28)]) rfl ND (di_range1 (de_var 2) Tx.n_range) (blkOk_by (by kernel_rfl)) (by decide) (fun b => dg_name 28 ND) (fun b => dts_nil) (fun b => de_call VM.takes0 G_is_length (hr.mono (by decide)) Tx.m_is_length Tx.F_is_length.kp Tx.b_is_length (da_cons (de_var 11) (da_cons (de_var 12) (da_cons (de_var 28) (da_nil)))))))) (dss_cons (ds_set 15 ND (de_make false 32 tk Tx.mk_Net (insB_ok Tx.in_Net) G_Net_init (hr.mono (by decide)) Tx.a_Net Tx.b_Net_init (da_cons (de_callTy call_tuple_of cs_tuple Tx.n_tuple PyProof.Rows.boot_tuple (da_cons (de_bin op_mulU ops_mulU (de_lst (da_cons (de_str) (da_nil))) (de_bin op_sub ops_sub (de_bin op_add4 ops_add (de_var 9) (de_bin op_mulU ops_mulU (de_var 5) (de_var 3))) (de_int))) (da_nil))) (da_cons (de_tup (da_nil)) (da_cons (de_callTy call_tuple_of cs_tuple Tx.n_tuple PyProof.Rows.boot_tuple (da_cons (de_fld 44 (by decide : 44 < 67) (de_var 11)) (da_nil))) (da_cons (de_callTy call_tuple_of cs_tuple Tx.n_tuple PyProof.Rows.boot_tuple (da_cons (de_lc (own := [("one", 29)]) rfl ND (di_any (de_var 14)) (blkOk_by (by kernel_rfl)) (by decide) (fun b => dg_name 29 ND) (fun b => dts_nil) (fun b => de_tup (da_cons (de_str) (da_cons (de_var 29) (da_nil))))) (da_nil))) (da_nil))))))) (dss_cons (ds_if (DW.t (dw_or (dt_cmp (op_neU hr.units) ops_ne (de_meth0 38 tk Tx.me_QueuePlace_room (insB_ok Tx.in_QueuePlace) (by decide +kernel : ¬ ("room" : Str) ∈ flds) G_QueuePlace_room (hr.mono (by decide)) Tx.b_QueuePlace_room (de_var 12)) (de_var 2) (nomark _)) (dw_or (dt_cmp (op_neU hr.units) ops_ne (de_meth0 38 tk Tx.me_QueuePlace_width (insB_ok Tx.in_QueuePlace) (by decide +kernel : ¬ ("width" : Str) ∈ flds) G_QueuePlace_width (hr.mono (by decide)) Tx.b_QueuePlace_width (de_var 12)) (de_var 3) (nomark _)) (dw_or1 (dt_cmp (op_neU hr.units) ops_ne (de_call tk G_queue_sources (hr.mono (by decide)) Tx.m_queue_sources Tx.F_queue_sources.kp Tx.b_queue_sources (da_cons (de_var 12) (da_nil))) (de_lstRg (dr_2 (de_int) (de_var 9) Tx.n_range) Tx.n_list) (nomark _)))))) (dss_one (ds_ret (de_bl))) (dss_nil)) (dss_cons (ds_for po rfl (di_range1 (de_int) Tx.n_range) (dg_name 16 ND) (dss_cons (ds_set 17 ND (de_callTy call_tuple_of cs_tuple Tx.n_tuple PyProof.Rows.boot_tuple (da_cons (de_lc (own := [("k", 28)]) rfl ND (di_range1 (de_call tk G__law_pick (hr.mono (by decide)) Tx.m__law_pick Tx.F__law_pick.kp Tx.b__law_pick (da_cons (de_var 1) (da_cons (de_bin op_add4 ops_add (de_var 2) (de_int)) (da_nil)))) Tx.n_range) (blkOk_by (by kernel_rfl)) (by decide) (fun b => dg_name 28 ND) (fun b => dts_nil) (fun b => de_call VM.takes0 G__law_pick (hr.mono (by decide)) Tx.m__law_pick Tx.F__law_pick.kp Tx.b__law_pick (da_cons (de_var 1) (da_cons (de_bin op_shl ops_shl (de_int) (de_var 3)) (da_nil))))) (da_nil)))) (dss_cons (ds_setLc (own := [("k", 28)]) 18 rfl ND (di_range1 (de_var 5) Tx.n_range) (blkOk_by (by kernel_rfl)) (by decide) (fun b => dg_name 28 ND) (fun b => dts_nil) (fun b => de_call VM.takes0 G__law_pick (hr.mono (by decide)) Tx.m__law_pick Tx.F__law_pick.kp Tx.b__law_pick (da_cons (de_var 1) (da_cons (de_bin op_shl ops_shl (de_int) (de_var 3)) (da_nil)))) (sw_true rfl rfl rfl (by decide +kernel))) (dss_cons (ds_set 19 ND (de_bin op_mulU ops_mulU (de_callTy call_int1 cs_int Tx.n_int PyProof.Rows.boot_int (da_cons (de_cmp op_ge ops_ge (de_callB call_len cs_len Tx.n_len PySem.boot_len (da_cons (de_var 17) (da_nil))) (de_var 4) (nomark _)) (da_nil))) (de_call tk G__law_pick (hr.mono (by decide)) Tx.m__law_pick Tx.F__law_pick.kp Tx.b__law_pick (da_cons (de_var 1) (da_cons (de_int) (da_nil)))))) (dss_cons (ds_set 20 ND (de_bin op_mulU ops_mulU (de_callTy call_int1 cs_int Tx.n_int PyProof.Rows.boot_int (da_cons (de_cmp op_le ops_le (de_bin op_add4 ops_add (de_callB call_len cs_len Tx.n_len PySem.boot_len (da_cons (de_var 17) (da_nil))) (de_var 5)) (de_var 2) (nomark _)) (da_nil))) (de_call tk G__law_pick (hr.mono (by decide)) Tx.m__law_pick Tx.F__law_pick.kp Tx.b__law_pick (da_cons (de_var 1) (da_cons (de_int) (da_nil)))))) (dss_cons (ds_set 21 ND (de_bin op_add4 ops_add (de_slice (de_var 17) (do_some (de_bin op_mulU ops_mulU (de_var 4) (de_var 19))) (do_none)) (de_bin op_mulU ops_mulU (de_callTy call_tuple_of cs_tuple Tx.n_tuple PyProof.Rows.boot_tuple (da_cons (de_var 18) (da_nil))) (de_var 20)))) (dss_cons (ds_set 22 ND (de_bin op_add4 ops_add (de_tup (da_cons (de_var 19) (da_cons (de_var 20) (da_nil)))) (de_call tk G__law_told (hr.mono (by decide)) Tx.m__law_told Tx.F__law_told.kp Tx.b__law_told (da_cons (de_var 17) (da_cons (de_var 2) (da_cons (de_var 3) (da_nil))))))) (dss_cons (ds_for po rfl (di_any (de_var 18)) (dg_name 23 ND) (dss_one (ds_set 22 ND (de_bin op_add4 ops_add (de_var 22) (de_callTy call_tuple_of cs_tuple Tx.n_tuple PyProof.Rows.boot_tuple (da_cons (de_lc (own := [("j", 30)]) rfl ND (di_range1 (de_var 3) Tx.n_range) (blkOk_by (by kernel_rfl)) (by decide) (fun b => dg_name 30 ND) (fun b => dts_nil) (fun b => de_bin op_and ops_and (de_bin op_shr ops_shr (de_var 23) (de_var 30)) (de_int))) (da_nil))))))) (dss_cons (ds_set 24 ND (de_ix (de_call tk G_net_cycle (hr.mono (by decide)) Tx.m_net_cycle Tx.F_net_cycle.kp Tx.b_net_cycle (da_cons (de_var 15) (da_cons (de_tup (da_nil)) (da_cons (de_var 22) (da_nil))))) (de_int))) (dss_cons (ds_set 25 ND (de_bin op_add4 ops_add (de_tup (da_cons (de_callTy call_int1 cs_int Tx.n_int PyProof.Rows.boot_int (da_cons (de_cmp op_ge ops_ge (de_callB call_len cs_len Tx.n_len PySem.boot_len (da_cons (de_var 17) (da_nil))) (de_var 4) (nomark _)) (da_nil))) (da_cons (de_callTy call_int1 cs_int Tx.n_int PyProof.Rows.boot_int (da_cons (de_cmp op_le ops_le (de_bin op_add4 ops_add (de_callB call_len cs_len Tx.n_len PySem.boot_len (da_cons (de_var 17) (da_nil))) (de_var 5)) (de_var 2) (nomark _)) (da_nil))) (da_nil)))) (de_callTy call_tuple_of cs_tuple Tx.n_tuple PyProof.Rows.boot_tuple (da_cons (de_lc (own := [("k", 28)]) rfl ND (di_range1 (de_var 2) Tx.n_range) (blkOk_by (by kernel_rfl)) (by decide) (fun b => dg_name 28 ND) (fun b => dts_nil) (fun b => de_callTy call_int1 cs_int Tx.n_int PyProof.Rows.boot_int (da_cons (de_cmp (op_eqU hr.units) ops_eq (de_callB call_len cs_len Tx.n_len PySem.boot_len (da_cons (de_var 17) (da_nil))) (de_var 28) (nomark _)) (da_nil)))) (da_nil))))) (dss_cons (ds_if (dt_cmp (op_neU hr.units) ops_ne (de_var 24) (de_bin op_add4 ops_add (de_call tk G__law_told (hr.mono (by decide)) Tx.m__law_told Tx.F__law_told.kp Tx.b__law_told (da_cons (de_var 21) (da_cons (de_var 2) (da_cons (de_var 3) (da_nil))))) (de_var 25)) (nomark _)) (dss_one (ds_ret (de_bl))) (dss_nil)) (dss_cons (ds_if (DW.t (dw_or (dt_cmp (op_neU hr.units) ops_ne (de_call tk G_queue_bits (hr.mono (by decide)) Tx.m_queue_bits Tx.F_queue_bits.kp Tx.b_queue_bits (da_cons (de_var 17) (da_cons (de_var 2) (da_cons (de_var 3) (da_nil))))) (de_call tk G__law_told (hr.mono (by decide)) Tx.m__law_told Tx.F__law_told.kp Tx.b__law_told (da_cons (de_var 17) (da_cons (de_var 2) (da_cons (de_var 3) (da_nil))))) (nomark _)) (dw_or1 (dt_not (dt_val (de_call tk G__law_same (hr.mono (by decide)) Tx.m__law_same Tx.F__law_same.kp Tx.b__law_same (da_cons (de_call tk G_queue_of_bits (hr.mono (by decide)) Tx.m_queue_of_bits Tx.F_queue_of_bits.kp Tx.b_queue_of_bits (da_cons (de_call tk G__law_told (hr.mono (by decide)) Tx.m__law_told Tx.F__law_told.kp Tx.b__law_told (da_cons (de_var 17) (da_cons (de_var 2) (da_cons (de_var 3) (da_nil))))) (da_cons (de_var 2) (da_cons (de_var 3) (da_nil))))) (da_cons (de_var 17) (da_nil))))))))) (dss_one (ds_ret (de_bl))) (dss_nil)) (dss_cons (ds_set 26 ND (de_call tk G__law_bits (hr.mono (by decide)) Tx.m__law_bits Tx.F__law_bits.kp Tx.b__law_bits (da_cons (de_var 1) (da_cons (de_bin op_mulU ops_mulU (de_var 2) (de_bin op_add4 ops_add (de_int) (de_var 3))) (da_nil))))) (dss_one (ds_if (dt_not (dt_val (de_call tk G__law_same (hr.mono (by decide)) Tx.m__law_same Tx.F__law_same.kp Tx.b__law_same (da_cons (de_call tk G_queue_of_bits (hr.mono (by decide)) Tx.m_queue_of_bits Tx.F_queue_of_bits.kp Tx.b_queue_of_bits (da_cons (de_var 26) (da_cons (de_var 2) (da_cons (de_var 3) (da_nil))))) (da_cons (de_call tk G__law_back (hr.mono (by decide)) Tx.m__law_back Tx.F__law_back.kp Tx.b__law_back (da_cons (de_var 26) (da_cons (de_var 2) (da_cons (de_var 3) (da_nil))))) (da_nil)))))) (dss_one (ds_ret (de_bl))) (dss_nil)))))))))))))))) (dss_cons (ds_setLc (own := [("k", 28)]) 27 rfl ND (di_range1 (de_var 2) Tx.n_range) (blkOk_by (by kernel_rfl)) (by decide) (fun b => dg_name 28 ND) (fun b => dts_nil) (fun b => de_bin op_add4 ops_add (de_str) (de_callTy call_str_int cs_str Tx.n_str (by decide +kernel) (da_cons (de_var 28) (da_nil)))) (sw_true rfl rfl rfl (by decide +kernel))) (dss_cons (ds_for po rfl (di_range1 (de_var 2) Tx.n_range) (dg_name 28 ND) (dss_one (ds_set 27 ND (de_bin op_add4 ops_add (de_var 27) (de_lc (own := [("j", 30)]) rfl ND (di_range1 (de_var 3) Tx.n_range) (blkOk_by (by kernel_rfl)) (by decide) (fun b => dg_name 30 ND) (fun b => dts_nil) (fun b => de_bin op_add4 ops_add (de_bin op_add4 ops_add (de_bin op_add4 ops_add (de_str) (de_callTy call_str_int cs_str Tx.n_str (by decide +kernel) (da_cons (de_var 28) (da_nil)))) (de_str)) (de_callTy call_str_int cs_str Tx.n_str (by decide +kernel) (da_cons (de_var 30) (da_nil))))))))) (dss_one (ds_ret (de_cmp (op_eqU hr.units) ops_eq (de_call tk G_queue_names (hr.mono (by decide)) Tx.m_queue_names Tx.F_queue_names.kp Tx.b_queue_names (da_cons (de_str) (da_cons (de_var 2) (da_cons (de_var 3) (da_nil))))) (de_var 27) (nomark _))))))))))))))))))))))) (fun _ _ _ h => h)
end
end LW
set_option Elab.async false
set_option maxRecDepth 100000
set_option maxHeartbeats 4000000
set_option linter.all false
set_option autoImplicit false
namespace LW
open PySem L2 VM VE
theorem all_mk {ts : List Addr} {l : PySem.W.OpenLaw} {w : World} {K : PySem.W.Frag} {h : Heap} {mg : Str → Option Value} {fa : Addr} {C_QueuePlace C_CityError C_InvalidNet C_Net C_NodeMaker e_CityError cc_CityError co_CityError N_CityError e_InvalidNet cc_InvalidNet co_InvalidNet N_InvalidNet f__law_start f_NodeMaker_init f_QueuePlace_init f_QueuePlace_room f_NodeMaker_node f_NodeMaker_pick f_NodeMaker_both f_NodeMaker_turned f_is_length f_NodeMaker_either f_QueuePlace_width f_put_place f_check_net_rows f_is_count f_is_word f_is_net_source f_is_net_flop f_is_net_node f_is_net_output f_Net_init co_Net_init ta_Net_init f__law_pick f_taken_place f__law_bits f_queue_names f_queue_sources f__law_told f_node_told f_net_values f_is_bits f_net_cycle f__law_same f_has_words f_has_place_for f_queue_bits f_queue_of_bits f__law_back f_law : Addr}
    {od__law_start an__law_start od_NodeMaker_init an_NodeMaker_init od_QueuePlace_init an_QueuePlace_init od_QueuePlace_room an_QueuePlace_room od_NodeMaker_node an_NodeMaker_node od_NodeMaker_pick an_NodeMaker_pick od_NodeMaker_both an_NodeMaker_both od_NodeMaker_turned an_NodeMaker_turned od_is_length an_is_length od_NodeMaker_either an_NodeMaker_either od_QueuePlace_width an_QueuePlace_width od_put_place an_put_place od_check_net_rows an_check_net_rows od_is_count an_is_count od_is_word an_is_word od_is_net_source an_is_net_source od_is_net_flop an_is_net_flop od_is_net_node an_is_net_node od_is_net_output an_is_net_output od_Net_init an_Net_init yd_Net_init od__law_pick an__law_pick od_taken_place an_taken_place od__law_bits an__law_bits od_queue_names an_queue_names od_queue_sources an_queue_sources od__law_told an__law_told od_node_told an_node_told od_net_values an_net_values od_is_bits an_is_bits od_net_cycle an_net_cycle od__law_same an__law_same od_has_words an_has_words od_has_place_for an_has_place_for od_queue_bits an_queue_bits od_queue_of_bits an_queue_of_bits od__law_back an__law_back od_law an_law : Option Addr} {sl__law_start sl_NodeMaker_init sl_QueuePlace_init sl_QueuePlace_room sl_NodeMaker_node sl_NodeMaker_pick sl_NodeMaker_both sl_NodeMaker_turned sl_is_length sl_NodeMaker_either sl_QueuePlace_width sl_put_place sl_check_net_rows sl_is_count sl_is_word sl_is_net_source sl_is_net_flop sl_is_net_node sl_is_net_output sl_Net_init ys_Net_init sl__law_pick sl_taken_place sl__law_bits sl_queue_names sl_queue_sources sl__law_told sl_node_told sl_net_values sl_is_bits sl_net_cycle sl__law_same sl_has_words sl_has_place_for sl_queue_bits sl_queue_of_bits sl__law_back sl_law : Array (Option Value)} {oc__law_start kV__law_start dc__law_start pm__law_start cd__law_start ct__law_start oc_NodeMaker_init kV_NodeMaker_init dc_NodeMaker_init pm_NodeMaker_init cd_NodeMaker_init ct_NodeMaker_init oc_QueuePlace_init kV_QueuePlace_init dc_QueuePlace_init pm_QueuePlace_init cd_QueuePlace_init ct_QueuePlace_init oc_QueuePlace_room kV_QueuePlace_room dc_QueuePlace_room pm_QueuePlace_room cd_QueuePlace_room ct_QueuePlace_room oc_NodeMaker_node kV_NodeMaker_node dc_NodeMaker_node pm_NodeMaker_node cd_NodeMaker_node ct_NodeMaker_node oc_NodeMaker_pick kV_NodeMaker_pick dc_NodeMaker_pick pm_NodeMaker_pick cd_NodeMaker_pick ct_NodeMaker_pick oc_NodeMaker_both kV_NodeMaker_both dc_NodeMaker_both pm_NodeMaker_both cd_NodeMaker_both ct_NodeMaker_both oc_NodeMaker_turned kV_NodeMaker_turned dc_NodeMaker_turned pm_NodeMaker_turned cd_NodeMaker_turned ct_NodeMaker_turned oc_is_length kV_is_length dc_is_length pm_is_length cd_is_length ct_is_length oc_NodeMaker_either kV_NodeMaker_either dc_NodeMaker_either pm_NodeMaker_either cd_NodeMaker_either ct_NodeMaker_either oc_QueuePlace_width kV_QueuePlace_width dc_QueuePlace_width pm_QueuePlace_width cd_QueuePlace_width ct_QueuePlace_width oc_put_place kV_put_place dc_put_place pm_put_place cd_put_place ct_put_place oc_check_net_rows kV_check_net_rows dc_check_net_rows pm_check_net_rows cd_check_net_rows ct_check_net_rows oc_is_count kV_is_count dc_is_count pm_is_count cd_is_count ct_is_count oc_is_word kV_is_word dc_is_word pm_is_word cd_is_word ct_is_word oc_is_net_source kV_is_net_source dc_is_net_source pm_is_net_source cd_is_net_source ct_is_net_source oc_is_net_flop kV_is_net_flop dc_is_net_flop pm_is_net_flop cd_is_net_flop ct_is_net_flop oc_is_net_node kV_is_net_node dc_is_net_node pm_is_net_node cd_is_net_node ct_is_net_node oc_is_net_output kV_is_net_output dc_is_net_output pm_is_net_output cd_is_net_output ct_is_net_output oc_Net_init kV_Net_init dc_Net_init pm_Net_init ct_Net_init yc_Net_init oc__law_pick kV__law_pick dc__law_pick pm__law_pick cd__law_pick ct__law_pick oc_taken_place kV_taken_place dc_taken_place pm_taken_place cd_taken_place ct_taken_place oc__law_bits kV__law_bits dc__law_bits pm__law_bits cd__law_bits ct__law_bits oc_queue_names kV_queue_names dc_queue_names pm_queue_names cd_queue_names ct_queue_names oc_queue_sources kV_queue_sources dc_queue_sources pm_queue_sources cd_queue_sources ct_queue_sources oc__law_told kV__law_told dc__law_told pm__law_told cd__law_told ct__law_told oc_node_told kV_node_told dc_node_told pm_node_told cd_node_told ct_node_told oc_net_values kV_net_values dc_net_values pm_net_values cd_net_values ct_net_values oc_is_bits kV_is_bits dc_is_bits pm_is_bits cd_is_bits ct_is_bits oc_net_cycle kV_net_cycle dc_net_cycle pm_net_cycle cd_net_cycle ct_net_cycle oc__law_same kV__law_same dc__law_same pm__law_same cd__law_same ct__law_same oc_has_words kV_has_words dc_has_words pm_has_words cd_has_words ct_has_words oc_has_place_for kV_has_place_for dc_has_place_for pm_has_place_for cd_has_place_for ct_has_place_for oc_queue_bits kV_queue_bits dc_queue_bits pm_queue_bits cd_queue_bits ct_queue_bits oc_queue_of_bits kV_queue_of_bits dc_queue_of_bits pm_queue_of_bits cd_queue_of_bits ct_queue_of_bits oc__law_back kV__law_back dc__law_back pm__law_back cd__law_back ct__law_back oc_law kV_law dc_law pm_law cd_law ct_law : Value} {t_AND2 t_OR2 t_NOT1 t_PICK3 : Tok}
    {nm_CityError q_CityError : Str} {bs_CityError bm_CityError sub_CityError : List Value} {sn_CityError : List Str} {ab_CityError : Bool} {col_CityError : Option Bool} {dd_CityError od_CityError an_CityError xd_CityError yd_CityError : Option Addr} {k0_CityError k1_CityError k2_CityError k3_CityError k5_CityError : Option Value} {sl_CityError xs_CityError ys_CityError : Array (Option Value)} {vs_CityError : Array Value} {oc_CityError dc_CityError pm_CityError ct_CityError xc_CityError yc_CityError : Value} {tf_CityError : Tok}
    {nm_InvalidNet q_InvalidNet : Str} {bs_InvalidNet bm_InvalidNet sub_InvalidNet : List Value} {sn_InvalidNet : List Str} {ab_InvalidNet : Bool} {col_InvalidNet : Option Bool} {dd_InvalidNet od_InvalidNet an_InvalidNet xd_InvalidNet yd_InvalidNet : Option Addr} {k0_InvalidNet k1_InvalidNet k2_InvalidNet k3_InvalidNet k5_InvalidNet : Option Value} {sl_InvalidNet xs_InvalidNet ys_InvalidNet : Array (Option Value)} {vs_InvalidNet : Array Value} {oc_InvalidNet dc_InvalidNet pm_InvalidNet ct_InvalidNet xc_InvalidNet yc_InvalidNet : Value} {tf_InvalidNet : Tok}
    {vs_Net_init : Array Value} (X : K.In h) (G : h.Ns mainGlobals mg) (hfa : mg "law" = some (.ref fa)) (HT : ∀ P ∈ ts, h.get? P = some { cls := .none, data := .fields #[] })
    (a_QueuePlace : PySem.W.nsIn K mainGlobals "QueuePlace" = some (some (.ref C_QueuePlace)))
    (a_CityError : PySem.W.nsIn K mainGlobals "CityError" = some (some (.ref C_CityError)))
    (a_InvalidNet : PySem.W.nsIn K mainGlobals "InvalidNet" = some (some (.ref C_InvalidNet)))
    (a_Net : PySem.W.nsIn K mainGlobals "Net" = some (some (.ref C_Net)))
    (a_NodeMaker : PySem.W.nsIn K mainGlobals "NodeMaker" = some (some (.ref C_NodeMaker)))
    (L_CityError : K.lookup C_CityError = some (excClassObj nm_CityError q_CityError C_CityError N_CityError bs_CityError bm_CityError true sn_CityError sub_CityError ab_CityError col_CityError dd_CityError k0_CityError k1_CityError k2_CityError k3_CityError k5_CityError "ValueError.__new__"))
    (B_CityError : errB K C_CityError = true)
    (R_CityError : PySem.HandSPX.refsVE bm_CityError = true)
    (I_CityError : PySem.W.findIn K (.ref C_CityError) "__init__" = some (some (.ref e_CityError)))
    (Y_CityError : PySem.W.typeIn K (.ref e_CityError) = some (.type "function"))
    (V_CityError : PySem.W.fnIn K e_CityError = true)
    (LF_CityError : K.lookup e_CityError = some ⟨oc_CityError, od_CityError, .func (PySem.W.fnX "__init__" "CityError.__init__" (VE.supAr ⟨64, 17, 64, 21⟩ ⟨64, 23, 64, 28⟩) (defBody s_CityError_init) VE.supSc [("__class__", cc_CityError)] .none .none dc_CityError pm_CityError an_CityError (.ref co_CityError) ct_CityError), sl_CityError⟩)
    (LC_CityError : K.lookup cc_CityError = some ⟨xc_CityError, xd_CityError, .cell (some (.ref C_CityError)), xs_CityError⟩)
    (CO_CityError : PySem.W.codeIn K (.ref co_CityError) "CityError.__init__" = true)
    (LO_CityError : K.lookup co_CityError = some ⟨yc_CityError, yd_CityError, .fields vs_CityError, ys_CityError⟩)
    (VS_CityError : vs_CityError[2]? = some (.str l.prog.main.file tf_CityError))
    (CI_CityError : PySem.W.isClsIn K C_CityError = true)
    (M1_CityError : PySem.W.mroIn K C_CityError (.ref C_CityError) = some true)
    (S1_CityError : PySem.W.ks_superIn K C_CityError C_CityError "__init__" = some (some (.builtin "ValueError.__init__")))
    (L_InvalidNet : K.lookup C_InvalidNet = some (excClassObj nm_InvalidNet q_InvalidNet C_InvalidNet N_InvalidNet bs_InvalidNet bm_InvalidNet true sn_InvalidNet sub_InvalidNet ab_InvalidNet col_InvalidNet dd_InvalidNet k0_InvalidNet k1_InvalidNet k2_InvalidNet k3_InvalidNet k5_InvalidNet "ValueError.__new__"))
    (B_InvalidNet : errB K C_InvalidNet = true)
    (R_InvalidNet : PySem.HandSPX.refsVE bm_InvalidNet = true)
    (I_InvalidNet : PySem.W.findIn K (.ref C_InvalidNet) "__init__" = some (some (.ref e_InvalidNet)))
    (Y_InvalidNet : PySem.W.typeIn K (.ref e_InvalidNet) = some (.type "function"))
    (V_InvalidNet : PySem.W.fnIn K e_InvalidNet = true)
    (LF_InvalidNet : K.lookup e_InvalidNet = some ⟨oc_InvalidNet, od_InvalidNet, .func (PySem.W.fnX "__init__" "InvalidNet.__init__" (VE.supAr ⟨70, 17, 70, 21⟩ ⟨70, 23, 70, 28⟩) (defBody s_InvalidNet_init) VE.supSc [("__class__", cc_InvalidNet)] .none .none dc_InvalidNet pm_InvalidNet an_InvalidNet (.ref co_InvalidNet) ct_InvalidNet), sl_InvalidNet⟩)
    (LC_InvalidNet : K.lookup cc_InvalidNet = some ⟨xc_InvalidNet, xd_InvalidNet, .cell (some (.ref C_InvalidNet)), xs_InvalidNet⟩)
    (CO_InvalidNet : PySem.W.codeIn K (.ref co_InvalidNet) "InvalidNet.__init__" = true)
    (LO_InvalidNet : K.lookup co_InvalidNet = some ⟨yc_InvalidNet, yd_InvalidNet, .fields vs_InvalidNet, ys_InvalidNet⟩)
    (VS_InvalidNet : vs_InvalidNet[2]? = some (.str l.prog.main.file tf_InvalidNet))
    (CI_InvalidNet : PySem.W.isClsIn K C_InvalidNet = true)
    (M1_InvalidNet : PySem.W.mroIn K C_InvalidNet (.ref C_InvalidNet) = some true)
    (S1_InvalidNet : PySem.W.ks_superIn K C_InvalidNet C_InvalidNet "__init__" = some (some (.ref e_CityError)))
    (M2_InvalidNet : PySem.W.mroIn K C_InvalidNet (.ref C_CityError) = some true)
    (S2_InvalidNet : PySem.W.ks_superIn K C_InvalidNet C_CityError "__init__" = some (some (.builtin "ValueError.__init__")))
    (OPC : PySem.W.nsIn K cStatics "thirdparty.any" = some none)
    (TOP : (l.prog.main.scope.names.lookup ("super" : Str)).isSome = false)
    (z_super : PySem.W.nsIn K mainGlobals "super" = some none)
    (in_QueuePlace : insB K C_QueuePlace = true)
    (no_QueuePlace : noB K C_QueuePlace ["more", "rows"] = true)
    (mk_QueuePlace : PySem.W.makesIn K C_QueuePlace = true)
    (kc_QueuePlace : PySem.W.keepIn K (.ref C_QueuePlace) = true)
    (in_Net : insB K C_Net = true)
    (no_Net : noB K C_Net ["inputs", "flops", "nodes", "outputs"] = true)
    (mk_Net : PySem.W.makesIn K C_Net = true)
    (kc_Net : PySem.W.keepIn K (.ref C_Net) = true)
    (in_NodeMaker : insB K C_NodeMaker = true)
    (no_NodeMaker : noB K C_NodeMaker ["first", "nodes", "met"] = true)
    (mk_NodeMaker : PySem.W.makesIn K C_NodeMaker = true)
    (kc_NodeMaker : PySem.W.keepIn K (.ref C_NodeMaker) = true)
    (a__law_start : PySem.W.nsIn K mainGlobals "_law_start" = some (some (.ref f__law_start)))
    (l__law_start : K.lookup f__law_start = some ⟨oc__law_start, od__law_start, .func (PySem.W.fnOf "_law_start" "_law_start" (defArgs s__law_start) (defBody s__law_start) (defScope s__law_start) .none kV__law_start dc__law_start pm__law_start an__law_start cd__law_start ct__law_start), sl__law_start⟩)
    (c__law_start : PySem.W.codeIn K cd__law_start "_law_start" = true)
    (k__law_start : PySem.W.keepIn K (.ref f__law_start) = true)
    (i_NodeMaker_init : PySem.W.findIn K (.ref C_NodeMaker) "__init__" = some (some (.ref f_NodeMaker_init)))
    (l_NodeMaker_init : K.lookup f_NodeMaker_init = some ⟨oc_NodeMaker_init, od_NodeMaker_init, .func (PySem.W.fnOf "__init__" "NodeMaker.__init__" (defArgs s_NodeMaker_init) (defBody s_NodeMaker_init) (defScope s_NodeMaker_init) .none kV_NodeMaker_init dc_NodeMaker_init pm_NodeMaker_init an_NodeMaker_init cd_NodeMaker_init ct_NodeMaker_init), sl_NodeMaker_init⟩)
    (c_NodeMaker_init : PySem.W.codeIn K cd_NodeMaker_init "NodeMaker.__init__" = true)
    (k_NodeMaker_init : PySem.W.keepIn K (.ref f_NodeMaker_init) = true)
    (fn_NodeMaker_init : PySem.W.isFn K (.ref f_NodeMaker_init) = true)
    (i_QueuePlace_init : PySem.W.findIn K (.ref C_QueuePlace) "__init__" = some (some (.ref f_QueuePlace_init)))
    (l_QueuePlace_init : K.lookup f_QueuePlace_init = some ⟨oc_QueuePlace_init, od_QueuePlace_init, .func (PySem.W.fnOf "__init__" "QueuePlace.__init__" (defArgs s_QueuePlace_init) (defBody s_QueuePlace_init) (defScope s_QueuePlace_init) .none kV_QueuePlace_init dc_QueuePlace_init pm_QueuePlace_init an_QueuePlace_init cd_QueuePlace_init ct_QueuePlace_init), sl_QueuePlace_init⟩)
    (c_QueuePlace_init : PySem.W.codeIn K cd_QueuePlace_init "QueuePlace.__init__" = true)
    (k_QueuePlace_init : PySem.W.keepIn K (.ref f_QueuePlace_init) = true)
    (fn_QueuePlace_init : PySem.W.isFn K (.ref f_QueuePlace_init) = true)
    (i_QueuePlace_room : PySem.W.findIn K (.ref C_QueuePlace) "room" = some (some (.ref f_QueuePlace_room)))
    (l_QueuePlace_room : K.lookup f_QueuePlace_room = some ⟨oc_QueuePlace_room, od_QueuePlace_room, .func (PySem.W.fnOf "room" "QueuePlace.room" (defArgs s_QueuePlace_room) (defBody s_QueuePlace_room) (defScope s_QueuePlace_room) .none kV_QueuePlace_room dc_QueuePlace_room pm_QueuePlace_room an_QueuePlace_room cd_QueuePlace_room ct_QueuePlace_room), sl_QueuePlace_room⟩)
    (c_QueuePlace_room : PySem.W.codeIn K cd_QueuePlace_room "QueuePlace.room" = true)
    (k_QueuePlace_room : PySem.W.keepIn K (.ref f_QueuePlace_room) = true)
    (fn_QueuePlace_room : PySem.W.isFn K (.ref f_QueuePlace_room) = true)
    (i_NodeMaker_node : PySem.W.findIn K (.ref C_NodeMaker) "node" = some (some (.ref f_NodeMaker_node)))
    (l_NodeMaker_node : K.lookup f_NodeMaker_node = some ⟨oc_NodeMaker_node, od_NodeMaker_node, .func (PySem.W.fnOf "node" "NodeMaker.node" (defArgs s_NodeMaker_node) (defBody s_NodeMaker_node) (defScope s_NodeMaker_node) .none kV_NodeMaker_node dc_NodeMaker_node pm_NodeMaker_node an_NodeMaker_node cd_NodeMaker_node ct_NodeMaker_node), sl_NodeMaker_node⟩)
    (c_NodeMaker_node : PySem.W.codeIn K cd_NodeMaker_node "NodeMaker.node" = true)
    (k_NodeMaker_node : PySem.W.keepIn K (.ref f_NodeMaker_node) = true)
    (fn_NodeMaker_node : PySem.W.isFn K (.ref f_NodeMaker_node) = true)
    (i_NodeMaker_pick : PySem.W.findIn K (.ref C_NodeMaker) "pick" = some (some (.ref f_NodeMaker_pick)))
    (l_NodeMaker_pick : K.lookup f_NodeMaker_pick = some ⟨oc_NodeMaker_pick, od_NodeMaker_pick, .func (PySem.W.fnOf "pick" "NodeMaker.pick" (defArgs s_NodeMaker_pick) (defBody s_NodeMaker_pick) (defScope s_NodeMaker_pick) .none kV_NodeMaker_pick dc_NodeMaker_pick pm_NodeMaker_pick an_NodeMaker_pick cd_NodeMaker_pick ct_NodeMaker_pick), sl_NodeMaker_pick⟩)
    (c_NodeMaker_pick : PySem.W.codeIn K cd_NodeMaker_pick "NodeMaker.pick" = true)
    (k_NodeMaker_pick : PySem.W.keepIn K (.ref f_NodeMaker_pick) = true)
    (fn_NodeMaker_pick : PySem.W.isFn K (.ref f_NodeMaker_pick) = true)
    (i_NodeMaker_both : PySem.W.findIn K (.ref C_NodeMaker) "both" = some (some (.ref f_NodeMaker_both)))
    (l_NodeMaker_both : K.lookup f_NodeMaker_both = some ⟨oc_NodeMaker_both, od_NodeMaker_both, .func (PySem.W.fnOf "both" "NodeMaker.both" (defArgs s_NodeMaker_both) (defBody s_NodeMaker_both) (defScope s_NodeMaker_both) .none kV_NodeMaker_both dc_NodeMaker_both pm_NodeMaker_both an_NodeMaker_both cd_NodeMaker_both ct_NodeMaker_both), sl_NodeMaker_both⟩)
    (c_NodeMaker_both : PySem.W.codeIn K cd_NodeMaker_both "NodeMaker.both" = true)
    (k_NodeMaker_both : PySem.W.keepIn K (.ref f_NodeMaker_both) = true)
    (fn_NodeMaker_both : PySem.W.isFn K (.ref f_NodeMaker_both) = true)
    (i_NodeMaker_turned : PySem.W.findIn K (.ref C_NodeMaker) "turned" = some (some (.ref f_NodeMaker_turned)))
    (l_NodeMaker_turned : K.lookup f_NodeMaker_turned = some ⟨oc_NodeMaker_turned, od_NodeMaker_turned, .func (PySem.W.fnOf "turned" "NodeMaker.turned" (defArgs s_NodeMaker_turned) (defBody s_NodeMaker_turned) (defScope s_NodeMaker_turned) .none kV_NodeMaker_turned dc_NodeMaker_turned pm_NodeMaker_turned an_NodeMaker_turned cd_NodeMaker_turned ct_NodeMaker_turned), sl_NodeMaker_turned⟩)
    (c_NodeMaker_turned : PySem.W.codeIn K cd_NodeMaker_turned "NodeMaker.turned" = true)
    (k_NodeMaker_turned : PySem.W.keepIn K (.ref f_NodeMaker_turned) = true)
    (fn_NodeMaker_turned : PySem.W.isFn K (.ref f_NodeMaker_turned) = true)
    (a_is_length : PySem.W.nsIn K mainGlobals "is_length" = some (some (.ref f_is_length)))
    (l_is_length : K.lookup f_is_length = some ⟨oc_is_length, od_is_length, .func (PySem.W.fnOf "is_length" "is_length" (defArgs s_is_length) (defBody s_is_length) (defScope s_is_length) .none kV_is_length dc_is_length pm_is_length an_is_length cd_is_length ct_is_length), sl_is_length⟩)
    (c_is_length : PySem.W.codeIn K cd_is_length "is_length" = true)
    (k_is_length : PySem.W.keepIn K (.ref f_is_length) = true)
    (i_NodeMaker_either : PySem.W.findIn K (.ref C_NodeMaker) "either" = some (some (.ref f_NodeMaker_either)))
    (l_NodeMaker_either : K.lookup f_NodeMaker_either = some ⟨oc_NodeMaker_either, od_NodeMaker_either, .func (PySem.W.fnOf "either" "NodeMaker.either" (defArgs s_NodeMaker_either) (defBody s_NodeMaker_either) (defScope s_NodeMaker_either) .none kV_NodeMaker_either dc_NodeMaker_either pm_NodeMaker_either an_NodeMaker_either cd_NodeMaker_either ct_NodeMaker_either), sl_NodeMaker_either⟩)
    (c_NodeMaker_either : PySem.W.codeIn K cd_NodeMaker_either "NodeMaker.either" = true)
    (k_NodeMaker_either : PySem.W.keepIn K (.ref f_NodeMaker_either) = true)
    (fn_NodeMaker_either : PySem.W.isFn K (.ref f_NodeMaker_either) = true)
    (i_QueuePlace_width : PySem.W.findIn K (.ref C_QueuePlace) "width" = some (some (.ref f_QueuePlace_width)))
    (l_QueuePlace_width : K.lookup f_QueuePlace_width = some ⟨oc_QueuePlace_width, od_QueuePlace_width, .func (PySem.W.fnOf "width" "QueuePlace.width" (defArgs s_QueuePlace_width) (defBody s_QueuePlace_width) (defScope s_QueuePlace_width) .none kV_QueuePlace_width dc_QueuePlace_width pm_QueuePlace_width an_QueuePlace_width cd_QueuePlace_width ct_QueuePlace_width), sl_QueuePlace_width⟩)
    (c_QueuePlace_width : PySem.W.codeIn K cd_QueuePlace_width "QueuePlace.width" = true)
    (k_QueuePlace_width : PySem.W.keepIn K (.ref f_QueuePlace_width) = true)
    (fn_QueuePlace_width : PySem.W.isFn K (.ref f_QueuePlace_width) = true)
    (a_put_place : PySem.W.nsIn K mainGlobals "put_place" = some (some (.ref f_put_place)))
    (l_put_place : K.lookup f_put_place = some ⟨oc_put_place, od_put_place, .func (PySem.W.fnOf "put_place" "put_place" (defArgs s_put_place) (defBody s_put_place) (defScope s_put_place) .none kV_put_place dc_put_place pm_put_place an_put_place cd_put_place ct_put_place), sl_put_place⟩)
    (c_put_place : PySem.W.codeIn K cd_put_place "put_place" = true)
    (k_put_place : PySem.W.keepIn K (.ref f_put_place) = true)
    (a_check_net_rows : PySem.W.nsIn K mainGlobals "check_net_rows" = some (some (.ref f_check_net_rows)))
    (l_check_net_rows : K.lookup f_check_net_rows = some ⟨oc_check_net_rows, od_check_net_rows, .func (PySem.W.fnOf "check_net_rows" "check_net_rows" (defArgs s_check_net_rows) (defBody s_check_net_rows) (defScope s_check_net_rows) .none kV_check_net_rows dc_check_net_rows pm_check_net_rows an_check_net_rows cd_check_net_rows ct_check_net_rows), sl_check_net_rows⟩)
    (c_check_net_rows : PySem.W.codeIn K cd_check_net_rows "check_net_rows" = true)
    (k_check_net_rows : PySem.W.keepIn K (.ref f_check_net_rows) = true)
    (a_is_count : PySem.W.nsIn K mainGlobals "is_count" = some (some (.ref f_is_count)))
    (l_is_count : K.lookup f_is_count = some ⟨oc_is_count, od_is_count, .func (PySem.W.fnOf "is_count" "is_count" (defArgs s_is_count) (defBody s_is_count) (defScope s_is_count) .none kV_is_count dc_is_count pm_is_count an_is_count cd_is_count ct_is_count), sl_is_count⟩)
    (c_is_count : PySem.W.codeIn K cd_is_count "is_count" = true)
    (k_is_count : PySem.W.keepIn K (.ref f_is_count) = true)
    (a_is_word : PySem.W.nsIn K mainGlobals "is_word" = some (some (.ref f_is_word)))
    (l_is_word : K.lookup f_is_word = some ⟨oc_is_word, od_is_word, .func (PySem.W.fnOf "is_word" "is_word" (defArgs s_is_word) (defBody s_is_word) (defScope s_is_word) .none kV_is_word dc_is_word pm_is_word an_is_word cd_is_word ct_is_word), sl_is_word⟩)
    (c_is_word : PySem.W.codeIn K cd_is_word "is_word" = true)
    (k_is_word : PySem.W.keepIn K (.ref f_is_word) = true)
    (a_is_net_source : PySem.W.nsIn K mainGlobals "is_net_source" = some (some (.ref f_is_net_source)))
    (l_is_net_source : K.lookup f_is_net_source = some ⟨oc_is_net_source, od_is_net_source, .func (PySem.W.fnOf "is_net_source" "is_net_source" (defArgs s_is_net_source) (defBody s_is_net_source) (defScope s_is_net_source) .none kV_is_net_source dc_is_net_source pm_is_net_source an_is_net_source cd_is_net_source ct_is_net_source), sl_is_net_source⟩)
    (c_is_net_source : PySem.W.codeIn K cd_is_net_source "is_net_source" = true)
    (k_is_net_source : PySem.W.keepIn K (.ref f_is_net_source) = true)
    (a_is_net_flop : PySem.W.nsIn K mainGlobals "is_net_flop" = some (some (.ref f_is_net_flop)))
    (l_is_net_flop : K.lookup f_is_net_flop = some ⟨oc_is_net_flop, od_is_net_flop, .func (PySem.W.fnOf "is_net_flop" "is_net_flop" (defArgs s_is_net_flop) (defBody s_is_net_flop) (defScope s_is_net_flop) .none kV_is_net_flop dc_is_net_flop pm_is_net_flop an_is_net_flop cd_is_net_flop ct_is_net_flop), sl_is_net_flop⟩)
    (c_is_net_flop : PySem.W.codeIn K cd_is_net_flop "is_net_flop" = true)
    (k_is_net_flop : PySem.W.keepIn K (.ref f_is_net_flop) = true)
    (a_is_net_node : PySem.W.nsIn K mainGlobals "is_net_node" = some (some (.ref f_is_net_node)))
    (l_is_net_node : K.lookup f_is_net_node = some ⟨oc_is_net_node, od_is_net_node, .func (PySem.W.fnOf "is_net_node" "is_net_node" (defArgs s_is_net_node) (defBody s_is_net_node) (defScope s_is_net_node) .none kV_is_net_node dc_is_net_node pm_is_net_node an_is_net_node cd_is_net_node ct_is_net_node), sl_is_net_node⟩)
    (c_is_net_node : PySem.W.codeIn K cd_is_net_node "is_net_node" = true)
    (k_is_net_node : PySem.W.keepIn K (.ref f_is_net_node) = true)
    (a_is_net_output : PySem.W.nsIn K mainGlobals "is_net_output" = some (some (.ref f_is_net_output)))
    (l_is_net_output : K.lookup f_is_net_output = some ⟨oc_is_net_output, od_is_net_output, .func (PySem.W.fnOf "is_net_output" "is_net_output" (defArgs s_is_net_output) (defBody s_is_net_output) (defScope s_is_net_output) .none kV_is_net_output dc_is_net_output pm_is_net_output an_is_net_output cd_is_net_output ct_is_net_output), sl_is_net_output⟩)
    (c_is_net_output : PySem.W.codeIn K cd_is_net_output "is_net_output" = true)
    (k_is_net_output : PySem.W.keepIn K (.ref f_is_net_output) = true)
    (i_Net_init : PySem.W.findIn K (.ref C_Net) "__init__" = some (some (.ref f_Net_init)))
    (l_Net_init : K.lookup f_Net_init = some ⟨oc_Net_init, od_Net_init, .func (PySem.W.fnOf "__init__" "Net.__init__" (defArgs s_Net_init) (defBody s_Net_init) (defScope s_Net_init) .none kV_Net_init dc_Net_init pm_Net_init an_Net_init (.ref co_Net_init) ct_Net_init), sl_Net_init⟩)
    (c_Net_init : PySem.W.codeIn K (.ref co_Net_init) "Net.__init__" = true)
    (lo_Net_init : K.lookup co_Net_init = some ⟨yc_Net_init, yd_Net_init, .fields vs_Net_init, ys_Net_init⟩)
    (vp_Net_init : vs_Net_init[11]? = some (.ref ta_Net_init))
    (hd_Net_init : PySem.W.codeHdIn K co_Net_init ta_Net_init = true)
    (nt_Net_init : K.lookup ta_Net_init = none)
    (tm_Net_init : ta_Net_init ∈ ts)
    (k_Net_init : PySem.W.keepIn K (.ref f_Net_init) = true)
    (fn_Net_init : PySem.W.isFn K (.ref f_Net_init) = true)
    (a__law_pick : PySem.W.nsIn K mainGlobals "_law_pick" = some (some (.ref f__law_pick)))
    (l__law_pick : K.lookup f__law_pick = some ⟨oc__law_pick, od__law_pick, .func (PySem.W.fnOf "_law_pick" "_law_pick" (defArgs s__law_pick) (defBody s__law_pick) (defScope s__law_pick) .none kV__law_pick dc__law_pick pm__law_pick an__law_pick cd__law_pick ct__law_pick), sl__law_pick⟩)
    (c__law_pick : PySem.W.codeIn K cd__law_pick "_law_pick" = true)
    (k__law_pick : PySem.W.keepIn K (.ref f__law_pick) = true)
    (a_taken_place : PySem.W.nsIn K mainGlobals "taken_place" = some (some (.ref f_taken_place)))
    (l_taken_place : K.lookup f_taken_place = some ⟨oc_taken_place, od_taken_place, .func (PySem.W.fnOf "taken_place" "taken_place" (defArgs s_taken_place) (defBody s_taken_place) (defScope s_taken_place) .none kV_taken_place dc_taken_place pm_taken_place an_taken_place cd_taken_place ct_taken_place), sl_taken_place⟩)
    (c_taken_place : PySem.W.codeIn K cd_taken_place "taken_place" = true)
    (k_taken_place : PySem.W.keepIn K (.ref f_taken_place) = true)
    (a__law_bits : PySem.W.nsIn K mainGlobals "_law_bits" = some (some (.ref f__law_bits)))
    (l__law_bits : K.lookup f__law_bits = some ⟨oc__law_bits, od__law_bits, .func (PySem.W.fnOf "_law_bits" "_law_bits" (defArgs s__law_bits) (defBody s__law_bits) (defScope s__law_bits) .none kV__law_bits dc__law_bits pm__law_bits an__law_bits cd__law_bits ct__law_bits), sl__law_bits⟩)
    (c__law_bits : PySem.W.codeIn K cd__law_bits "_law_bits" = true)
    (k__law_bits : PySem.W.keepIn K (.ref f__law_bits) = true)
    (a_queue_names : PySem.W.nsIn K mainGlobals "queue_names" = some (some (.ref f_queue_names)))
    (l_queue_names : K.lookup f_queue_names = some ⟨oc_queue_names, od_queue_names, .func (PySem.W.fnOf "queue_names" "queue_names" (defArgs s_queue_names) (defBody s_queue_names) (defScope s_queue_names) .none kV_queue_names dc_queue_names pm_queue_names an_queue_names cd_queue_names ct_queue_names), sl_queue_names⟩)
    (c_queue_names : PySem.W.codeIn K cd_queue_names "queue_names" = true)
    (k_queue_names : PySem.W.keepIn K (.ref f_queue_names) = true)
    (a_queue_sources : PySem.W.nsIn K mainGlobals "queue_sources" = some (some (.ref f_queue_sources)))
    (l_queue_sources : K.lookup f_queue_sources = some ⟨oc_queue_sources, od_queue_sources, .func (PySem.W.fnOf "queue_sources" "queue_sources" (defArgs s_queue_sources) (defBody s_queue_sources) (defScope s_queue_sources) .none kV_queue_sources dc_queue_sources pm_queue_sources an_queue_sources cd_queue_sources ct_queue_sources), sl_queue_sources⟩)
    (c_queue_sources : PySem.W.codeIn K cd_queue_sources "queue_sources" = true)
    (k_queue_sources : PySem.W.keepIn K (.ref f_queue_sources) = true)
    (a__law_told : PySem.W.nsIn K mainGlobals "_law_told" = some (some (.ref f__law_told)))
    (l__law_told : K.lookup f__law_told = some ⟨oc__law_told, od__law_told, .func (PySem.W.fnOf "_law_told" "_law_told" (defArgs s__law_told) (defBody s__law_told) (defScope s__law_told) .none kV__law_told dc__law_told pm__law_told an__law_told cd__law_told ct__law_told), sl__law_told⟩)
    (c__law_told : PySem.W.codeIn K cd__law_told "_law_told" = true)
    (k__law_told : PySem.W.keepIn K (.ref f__law_told) = true)
    (a_node_told : PySem.W.nsIn K mainGlobals "node_told" = some (some (.ref f_node_told)))
    (l_node_told : K.lookup f_node_told = some ⟨oc_node_told, od_node_told, .func (PySem.W.fnOf "node_told" "node_told" (defArgs s_node_told) (defBody s_node_told) (defScope s_node_told) .none kV_node_told dc_node_told pm_node_told an_node_told cd_node_told ct_node_told), sl_node_told⟩)
    (c_node_told : PySem.W.codeIn K cd_node_told "node_told" = true)
    (k_node_told : PySem.W.keepIn K (.ref f_node_told) = true)
    (a_net_values : PySem.W.nsIn K mainGlobals "net_values" = some (some (.ref f_net_values)))
    (l_net_values : K.lookup f_net_values = some ⟨oc_net_values, od_net_values, .func (PySem.W.fnOf "net_values" "net_values" (defArgs s_net_values) (defBody s_net_values) (defScope s_net_values) .none kV_net_values dc_net_values pm_net_values an_net_values cd_net_values ct_net_values), sl_net_values⟩)
    (c_net_values : PySem.W.codeIn K cd_net_values "net_values" = true)
    (k_net_values : PySem.W.keepIn K (.ref f_net_values) = true)
    (a_is_bits : PySem.W.nsIn K mainGlobals "is_bits" = some (some (.ref f_is_bits)))
    (l_is_bits : K.lookup f_is_bits = some ⟨oc_is_bits, od_is_bits, .func (PySem.W.fnOf "is_bits" "is_bits" (defArgs s_is_bits) (defBody s_is_bits) (defScope s_is_bits) .none kV_is_bits dc_is_bits pm_is_bits an_is_bits cd_is_bits ct_is_bits), sl_is_bits⟩)
    (c_is_bits : PySem.W.codeIn K cd_is_bits "is_bits" = true)
    (k_is_bits : PySem.W.keepIn K (.ref f_is_bits) = true)
    (a_net_cycle : PySem.W.nsIn K mainGlobals "net_cycle" = some (some (.ref f_net_cycle)))
    (l_net_cycle : K.lookup f_net_cycle = some ⟨oc_net_cycle, od_net_cycle, .func (PySem.W.fnOf "net_cycle" "net_cycle" (defArgs s_net_cycle) (defBody s_net_cycle) (defScope s_net_cycle) .none kV_net_cycle dc_net_cycle pm_net_cycle an_net_cycle cd_net_cycle ct_net_cycle), sl_net_cycle⟩)
    (c_net_cycle : PySem.W.codeIn K cd_net_cycle "net_cycle" = true)
    (k_net_cycle : PySem.W.keepIn K (.ref f_net_cycle) = true)
    (a__law_same : PySem.W.nsIn K mainGlobals "_law_same" = some (some (.ref f__law_same)))
    (l__law_same : K.lookup f__law_same = some ⟨oc__law_same, od__law_same, .func (PySem.W.fnOf "_law_same" "_law_same" (defArgs s__law_same) (defBody s__law_same) (defScope s__law_same) .none kV__law_same dc__law_same pm__law_same an__law_same cd__law_same ct__law_same), sl__law_same⟩)
    (c__law_same : PySem.W.codeIn K cd__law_same "_law_same" = true)
    (k__law_same : PySem.W.keepIn K (.ref f__law_same) = true)
    (a_has_words : PySem.W.nsIn K mainGlobals "has_words" = some (some (.ref f_has_words)))
    (l_has_words : K.lookup f_has_words = some ⟨oc_has_words, od_has_words, .func (PySem.W.fnOf "has_words" "has_words" (defArgs s_has_words) (defBody s_has_words) (defScope s_has_words) .none kV_has_words dc_has_words pm_has_words an_has_words cd_has_words ct_has_words), sl_has_words⟩)
    (c_has_words : PySem.W.codeIn K cd_has_words "has_words" = true)
    (k_has_words : PySem.W.keepIn K (.ref f_has_words) = true)
    (a_has_place_for : PySem.W.nsIn K mainGlobals "has_place_for" = some (some (.ref f_has_place_for)))
    (l_has_place_for : K.lookup f_has_place_for = some ⟨oc_has_place_for, od_has_place_for, .func (PySem.W.fnOf "has_place_for" "has_place_for" (defArgs s_has_place_for) (defBody s_has_place_for) (defScope s_has_place_for) .none kV_has_place_for dc_has_place_for pm_has_place_for an_has_place_for cd_has_place_for ct_has_place_for), sl_has_place_for⟩)
    (c_has_place_for : PySem.W.codeIn K cd_has_place_for "has_place_for" = true)
    (k_has_place_for : PySem.W.keepIn K (.ref f_has_place_for) = true)
    (a_queue_bits : PySem.W.nsIn K mainGlobals "queue_bits" = some (some (.ref f_queue_bits)))
    (l_queue_bits : K.lookup f_queue_bits = some ⟨oc_queue_bits, od_queue_bits, .func (PySem.W.fnOf "queue_bits" "queue_bits" (defArgs s_queue_bits) (defBody s_queue_bits) (defScope s_queue_bits) .none kV_queue_bits dc_queue_bits pm_queue_bits an_queue_bits cd_queue_bits ct_queue_bits), sl_queue_bits⟩)
    (c_queue_bits : PySem.W.codeIn K cd_queue_bits "queue_bits" = true)
    (k_queue_bits : PySem.W.keepIn K (.ref f_queue_bits) = true)
    (a_queue_of_bits : PySem.W.nsIn K mainGlobals "queue_of_bits" = some (some (.ref f_queue_of_bits)))
    (l_queue_of_bits : K.lookup f_queue_of_bits = some ⟨oc_queue_of_bits, od_queue_of_bits, .func (PySem.W.fnOf "queue_of_bits" "queue_of_bits" (defArgs s_queue_of_bits) (defBody s_queue_of_bits) (defScope s_queue_of_bits) .none kV_queue_of_bits dc_queue_of_bits pm_queue_of_bits an_queue_of_bits cd_queue_of_bits ct_queue_of_bits), sl_queue_of_bits⟩)
    (c_queue_of_bits : PySem.W.codeIn K cd_queue_of_bits "queue_of_bits" = true)
    (k_queue_of_bits : PySem.W.keepIn K (.ref f_queue_of_bits) = true)
    (a__law_back : PySem.W.nsIn K mainGlobals "_law_back" = some (some (.ref f__law_back)))
    (l__law_back : K.lookup f__law_back = some ⟨oc__law_back, od__law_back, .func (PySem.W.fnOf "_law_back" "_law_back" (defArgs s__law_back) (defBody s__law_back) (defScope s__law_back) .none kV__law_back dc__law_back pm__law_back an__law_back cd__law_back ct__law_back), sl__law_back⟩)
    (c__law_back : PySem.W.codeIn K cd__law_back "_law_back" = true)
    (k__law_back : PySem.W.keepIn K (.ref f__law_back) = true)
    (a_law : PySem.W.nsIn K mainGlobals "law" = some (some (.ref f_law)))
    (l_law : K.lookup f_law = some ⟨oc_law, od_law, .func (PySem.W.fnOf "law" "law" (defArgs s_law) (defBody s_law) (defScope s_law) .none kV_law dc_law pm_law an_law cd_law ct_law), sl_law⟩)
    (c_law : PySem.W.codeIn K cd_law "law" = true)
    (k_law : PySem.W.keepIn K (.ref f_law) = true)
    (z_tuple : PySem.W.nsIn K mainGlobals "tuple" = some none)
    (z_len : PySem.W.nsIn K mainGlobals "len" = some none)
    (z_range : PySem.W.nsIn K mainGlobals "range" = some none)
    (z_min : PySem.W.nsIn K mainGlobals "min" = some none)
    (z_isinstance : PySem.W.nsIn K mainGlobals "isinstance" = some none)
    (z_int : PySem.W.nsIn K mainGlobals "int" = some none)
    (z_bool : PySem.W.nsIn K mainGlobals "bool" = some none)
    (z_str : PySem.W.nsIn K mainGlobals "str" = some none)
    (z_all : PySem.W.nsIn K mainGlobals "all" = some none)
    (z_abs : PySem.W.nsIn K mainGlobals "abs" = some none)
    (z_list : PySem.W.nsIn K mainGlobals "list" = some none)
    (z_sum : PySem.W.nsIn K mainGlobals "sum" = some none)
    (u_AND2 : PySem.W.nsIn K mainGlobals "AND2" = some (some (.int 8 t_AND2)))
    (u_OR2 : PySem.W.nsIn K mainGlobals "OR2" = some (some (.int 14 t_OR2)))
    (u_NOT1 : PySem.W.nsIn K mainGlobals "NOT1" = some (some (.int 1 t_NOT1)))
    (u_PICK3 : PySem.W.nsIn K mainGlobals "PICK3" = some (some (.int 216 t_PICK3)))
    (ut : utB [(ta_Net_init, ("Net.__init__" : Str) ++ ".<locals>." ++ "<lambda>")] = true)
    : LamX.LawAtS l w K (L2.CX l.prog w) 11 63 "script" mg fa h := by
  have e := hfa.symm.trans (PySem.W.mg_of X G a_law)
  cases e
  have F__law_start := fun_mk (st := s__law_start) l__law_start c__law_start k__law_start
  have F_NodeMaker_init := fun_mk (st := s_NodeMaker_init) l_NodeMaker_init c_NodeMaker_init k_NodeMaker_init
  have F_QueuePlace_init := fun_mk (st := s_QueuePlace_init) l_QueuePlace_init c_QueuePlace_init k_QueuePlace_init
  have F_QueuePlace_room := fun_mk (st := s_QueuePlace_room) l_QueuePlace_room c_QueuePlace_room k_QueuePlace_room
  have F_NodeMaker_node := fun_mk (st := s_NodeMaker_node) l_NodeMaker_node c_NodeMaker_node k_NodeMaker_node
  have F_NodeMaker_pick := fun_mk (st := s_NodeMaker_pick) l_NodeMaker_pick c_NodeMaker_pick k_NodeMaker_pick
  have F_NodeMaker_both := fun_mk (st := s_NodeMaker_both) l_NodeMaker_both c_NodeMaker_both k_NodeMaker_both
  have F_NodeMaker_turned := fun_mk (st := s_NodeMaker_turned) l_NodeMaker_turned c_NodeMaker_turned k_NodeMaker_turned
  have F_is_length := fun_mk (st := s_is_length) l_is_length c_is_length k_is_length
  have F_NodeMaker_either := fun_mk (st := s_NodeMaker_either) l_NodeMaker_either c_NodeMaker_either k_NodeMaker_either
  have F_QueuePlace_width := fun_mk (st := s_QueuePlace_width) l_QueuePlace_width c_QueuePlace_width k_QueuePlace_width
  have F_put_place := fun_mk (st := s_put_place) l_put_place c_put_place k_put_place
  have F_check_net_rows := fun_mk (st := s_check_net_rows) l_check_net_rows c_check_net_rows k_check_net_rows
  have F_is_count := fun_mk (st := s_is_count) l_is_count c_is_count k_is_count
  have F_is_word := fun_mk (st := s_is_word) l_is_word c_is_word k_is_word
  have F_is_net_source := fun_mk (st := s_is_net_source) l_is_net_source c_is_net_source k_is_net_source
  have F_is_net_flop := fun_mk (st := s_is_net_flop) l_is_net_flop c_is_net_flop k_is_net_flop
  have F_is_net_node := fun_mk (st := s_is_net_node) l_is_net_node c_is_net_node k_is_net_node
  have F_is_net_output := fun_mk (st := s_is_net_output) l_is_net_output c_is_net_output k_is_net_output
  have F_Net_init := fun_mk (st := s_Net_init) l_Net_init c_Net_init k_Net_init
  have F__law_pick := fun_mk (st := s__law_pick) l__law_pick c__law_pick k__law_pick
  have F_taken_place := fun_mk (st := s_taken_place) l_taken_place c_taken_place k_taken_place
  have F__law_bits := fun_mk (st := s__law_bits) l__law_bits c__law_bits k__law_bits
  have F_queue_names := fun_mk (st := s_queue_names) l_queue_names c_queue_names k_queue_names
  have F_queue_sources := fun_mk (st := s_queue_sources) l_queue_sources c_queue_sources k_queue_sources
  have F__law_told := fun_mk (st := s__law_told) l__law_told c__law_told k__law_told
  have F_node_told := fun_mk (st := s_node_told) l_node_told c_node_told k_node_told
  have F_net_values := fun_mk (st := s_net_values) l_net_values c_net_values k_net_values
  have F_is_bits := fun_mk (st := s_is_bits) l_is_bits c_is_bits k_is_bits
  have F_net_cycle := fun_mk (st := s_net_cycle) l_net_cycle c_net_cycle k_net_cycle
  have F__law_same := fun_mk (st := s__law_same) l__law_same c__law_same k__law_same
  have F_has_words := fun_mk (st := s_has_words) l_has_words c_has_words k_has_words
  have F_has_place_for := fun_mk (st := s_has_place_for) l_has_place_for c_has_place_for k_has_place_for
  have F_queue_bits := fun_mk (st := s_queue_bits) l_queue_bits c_queue_bits k_queue_bits
  have F_queue_of_bits := fun_mk (st := s_queue_of_bits) l_queue_of_bits c_queue_of_bits k_queue_of_bits
  have F__law_back := fun_mk (st := s__law_back) l__law_back c__law_back k__law_back
  have F_law := fun_mk (st := s_law) l_law c_law k_law
  have b__law_start := F__law_start.binds (ps := ["script"]) fun _ _ _ _ _ _ us hl => match us, hl with | [_], _ => rfl
  have b_NodeMaker_init := F_NodeMaker_init.binds (ps := ["self", "first"]) fun _ _ _ _ _ _ us hl => match us, hl with | [_, _], _ => rfl
  have b_QueuePlace_init := F_QueuePlace_init.binds (ps := ["self", "more", "rows"]) fun _ _ _ _ _ _ us hl => match us, hl with | [_, _, _], _ => rfl
  have b_QueuePlace_room := F_QueuePlace_room.binds (ps := ["self"]) fun _ _ _ _ _ _ us hl => match us, hl with | [_], _ => rfl
  have b_NodeMaker_node := F_NodeMaker_node.binds (ps := ["self", "sources", "table"]) fun _ _ _ _ _ _ us hl => match us, hl with | [_, _, _], _ => rfl
  have b_NodeMaker_pick := F_NodeMaker_pick.binds (ps := ["self", "test", "one", "other"]) fun _ _ _ _ _ _ us hl => match us, hl with | [_, _, _, _], _ => rfl
  have b_NodeMaker_both := F_NodeMaker_both.binds (ps := ["self", "one", "other"]) fun _ _ _ _ _ _ us hl => match us, hl with | [_, _, _], _ => rfl
  have b_NodeMaker_turned := F_NodeMaker_turned.binds (ps := ["self", "one"]) fun _ _ _ _ _ _ us hl => match us, hl with | [_, _], _ => rfl
  have b_is_length := F_is_length.binds (ps := ["maker", "place", "count"]) fun _ _ _ _ _ _ us hl => match us, hl with | [_, _, _], _ => rfl
  have b_NodeMaker_either := F_NodeMaker_either.binds (ps := ["self", "one", "other"]) fun _ _ _ _ _ _ us hl => match us, hl with | [_, _, _], _ => rfl
  have b_QueuePlace_width := F_QueuePlace_width.binds (ps := ["self"]) fun _ _ _ _ _ _ us hl => match us, hl with | [_], _ => rfl
  have b_put_place := F_put_place.binds (ps := ["maker", "place", "words", "puts"]) fun _ _ _ _ _ _ us hl => match us, hl with | [_, _, _, _], _ => rfl
  have b_check_net_rows := F_check_net_rows.binds (ps := ["kind", "rows", "is_right"]) fun _ _ _ _ _ _ us hl => match us, hl with | [_, _, _], _ => rfl
  have b_is_count := F_is_count.binds (ps := ["value"]) fun _ _ _ _ _ _ us hl => match us, hl with | [_], _ => rfl
  have b_is_word := F_is_word.binds (ps := ["value", "width"]) fun _ _ _ _ _ _ us hl => match us, hl with | [_, _], _ => rfl
  have b_is_net_source := F_is_net_source.binds (ps := ["value", "limit"]) fun _ _ _ _ _ _ us hl => match us, hl with | [_, _], _ => rfl
  have b_is_net_flop := F_is_net_flop.binds (ps := ["value", "limit"]) fun _ _ _ _ _ _ us hl => match us, hl with | [_, _], _ => rfl
  have b_is_net_node := F_is_net_node.binds (ps := ["value", "own"]) fun _ _ _ _ _ _ us hl => match us, hl with | [_, _], _ => rfl
  have b_is_net_output := F_is_net_output.binds (ps := ["value", "limit"]) fun _ _ _ _ _ _ us hl => match us, hl with | [_, _], _ => rfl
  have b_Net_init := F_Net_init.binds (ps := ["self", "inputs", "flops", "nodes", "outputs"]) fun _ _ _ _ _ _ us hl => match us, hl with | [_, _, _, _, _], _ => rfl
  have b__law_pick := F__law_pick.binds (ps := ["state", "limit"]) fun _ _ _ _ _ _ us hl => match us, hl with | [_, _], _ => rfl
  have b_taken_place := F_taken_place.binds (ps := ["maker", "place", "rate", "takes"]) fun _ _ _ _ _ _ us hl => match us, hl with | [_, _, _, _], _ => rfl
  have b__law_bits := F__law_bits.binds (ps := ["state", "size"]) fun _ _ _ _ _ _ us hl => match us, hl with | [_, _], _ => rfl
  have b_queue_names := F_queue_names.binds (ps := ["name", "room", "width"]) fun _ _ _ _ _ _ us hl => match us, hl with | [_, _, _], _ => rfl
  have b_queue_sources := F_queue_sources.binds (ps := ["place"]) fun _ _ _ _ _ _ us hl => match us, hl with | [_], _ => rfl
  have b__law_told := F__law_told.binds (ps := ["words", "room", "width"]) fun _ _ _ _ _ _ us hl => match us, hl with | [_, _, _], _ => rfl
  have b_node_told := F_node_told.binds (ps := ["node", "values"]) fun _ _ _ _ _ _ us hl => match us, hl with | [_, _], _ => rfl
  have b_net_values := F_net_values.binds (ps := ["net", "state", "inputs"]) fun _ _ _ _ _ _ us hl => match us, hl with | [_, _, _], _ => rfl
  have b_is_bits := F_is_bits.binds (ps := ["value", "size"]) fun _ _ _ _ _ _ us hl => match us, hl with | [_, _], _ => rfl
  have b_net_cycle := F_net_cycle.binds (ps := ["net", "state", "inputs"]) fun _ _ _ _ _ _ us hl => match us, hl with | [_, _, _], _ => rfl
  have b__law_same := F__law_same.binds (ps := ["told", "due"]) fun _ _ _ _ _ _ us hl => match us, hl with | [_, _], _ => rfl
  have b_has_words := F_has_words.binds (ps := ["place", "count"]) fun _ _ _ _ _ _ us hl => match us, hl with | [_, _], _ => rfl
  have b_has_place_for := F_has_place_for.binds (ps := ["maker", "place", "count"]) fun _ _ _ _ _ _ us hl => match us, hl with | [_, _, _], _ => rfl
  have b_queue_bits := F_queue_bits.binds (ps := ["words", "room", "width"]) fun _ _ _ _ _ _ us hl => match us, hl with | [_, _, _], _ => rfl
  have b_queue_of_bits := F_queue_of_bits.binds (ps := ["bits", "room", "width"]) fun _ _ _ _ _ _ us hl => match us, hl with | [_, _, _], _ => rfl
  have b__law_back := F__law_back.binds (ps := ["bits", "room", "width"]) fun _ _ _ _ _ _ us hl => match us, hl with | [_, _, _], _ => rfl
  have b_law := F_law.binds (ps := ["script"]) fun _ _ _ _ _ _ us hl => match us, hl with | [_], _ => rfl
  have EE_CityError := errB_own B_CityError L_CityError R_CityError
  have E_CityError : ErrI K l.prog mg "CityError" _ _ _ _ _ _ _ _ := ⟨⟨⟨_, _, _, _, _, _, _, LF_CityError⟩, ⟨_, _, _, LC_CityError⟩, CO_CityError, ⟨_, _, _, _, _, LO_CityError, VS_CityError⟩, TOP, PySem.W.mg_none_of X G z_super, CI_CityError⟩, PySem.W.mg_of X G a_CityError, EE_CityError.1, EE_CityError.2, I_CityError, Y_CityError, V_CityError⟩
  have EE_InvalidNet := errB_own B_InvalidNet L_InvalidNet R_InvalidNet
  have E_InvalidNet : ErrI K l.prog mg "InvalidNet" _ _ _ _ _ _ _ _ := ⟨⟨⟨_, _, _, _, _, _, _, LF_InvalidNet⟩, ⟨_, _, _, LC_InvalidNet⟩, CO_InvalidNet, ⟨_, _, _, _, _, LO_InvalidNet, VS_InvalidNet⟩, TOP, PySem.W.mg_none_of X G z_super, CI_InvalidNet⟩, PySem.W.mg_of X G a_InvalidNet, EE_InvalidNet.1, EE_InvalidNet.2, I_InvalidNet, Y_InvalidNet, V_InvalidNet⟩
  have Tx : Txt K l.prog mg { C_QueuePlace := C_QueuePlace, C_CityError := C_CityError, C_InvalidNet := C_InvalidNet, C_Net := C_Net, C_NodeMaker := C_NodeMaker, e_CityError := e_CityError, cc_CityError := cc_CityError, co_CityError := co_CityError, e_InvalidNet := e_InvalidNet, cc_InvalidNet := cc_InvalidNet, co_InvalidNet := co_InvalidNet, f__law_start := f__law_start, fd__law_start := (PySem.W.fnOf "_law_start" "_law_start" (defArgs s__law_start) (defBody s__law_start) (defScope s__law_start) .none kV__law_start dc__law_start pm__law_start an__law_start cd__law_start ct__law_start), f_NodeMaker_init := f_NodeMaker_init, fd_NodeMaker_init := (PySem.W.fnOf "__init__" "NodeMaker.__init__" (defArgs s_NodeMaker_init) (defBody s_NodeMaker_init) (defScope s_NodeMaker_init) .none kV_NodeMaker_init dc_NodeMaker_init pm_NodeMaker_init an_NodeMaker_init cd_NodeMaker_init ct_NodeMaker_init), f_QueuePlace_init := f_QueuePlace_init, fd_QueuePlace_init := (PySem.W.fnOf "__init__" "QueuePlace.__init__" (defArgs s_QueuePlace_init) (defBody s_QueuePlace_init) (defScope s_QueuePlace_init) .none kV_QueuePlace_init dc_QueuePlace_init pm_QueuePlace_init an_QueuePlace_init cd_QueuePlace_init ct_QueuePlace_init), f_QueuePlace_room := f_QueuePlace_room, fd_QueuePlace_room := (PySem.W.fnOf "room" "QueuePlace.room" (defArgs s_QueuePlace_room) (defBody s_QueuePlace_room) (defScope s_QueuePlace_room) .none kV_QueuePlace_room dc_QueuePlace_room pm_QueuePlace_room an_QueuePlace_room cd_QueuePlace_room ct_QueuePlace_room), f_NodeMaker_node := f_NodeMaker_node, fd_NodeMaker_node := (PySem.W.fnOf "node" "NodeMaker.node" (defArgs s_NodeMaker_node) (defBody s_NodeMaker_node) (defScope s_NodeMaker_node) .none kV_NodeMaker_node dc_NodeMaker_node pm_NodeMaker_node an_NodeMaker_node cd_NodeMaker_node ct_NodeMaker_node), f_NodeMaker_pick := f_NodeMaker_pick, fd_NodeMaker_pick := (PySem.W.fnOf "pick" "NodeMaker.pick" (defArgs s_NodeMaker_pick) (defBody s_NodeMaker_pick) (defScope s_NodeMaker_pick) .none kV_NodeMaker_pick dc_NodeMaker_pick pm_NodeMaker_pick an_NodeMaker_pick cd_NodeMaker_pick ct_NodeMaker_pick), f_NodeMaker_both := f_NodeMaker_both, fd_NodeMaker_both := (PySem.W.fnOf "both" "NodeMaker.both" (defArgs s_NodeMaker_both) (defBody s_NodeMaker_both) (defScope s_NodeMaker_both) .none kV_NodeMaker_both dc_NodeMaker_both pm_NodeMaker_both an_NodeMaker_both cd_NodeMaker_both ct_NodeMaker_both), f_NodeMaker_turned := f_NodeMaker_turned, fd_NodeMaker_turned := (PySem.W.fnOf "turned" "NodeMaker.turned" (defArgs s_NodeMaker_turned) (defBody s_NodeMaker_turned) (defScope s_NodeMaker_turned) .none kV_NodeMaker_turned dc_NodeMaker_turned pm_NodeMaker_turned an_NodeMaker_turned cd_NodeMaker_turned ct_NodeMaker_turned), f_is_length := f_is_length, fd_is_length := (PySem.W.fnOf "is_length" "is_length" (defArgs s_is_length) (defBody s_is_length) (defScope s_is_length) .none kV_is_length dc_is_length pm_is_length an_is_length cd_is_length ct_is_length), f_NodeMaker_either := f_NodeMaker_either, fd_NodeMaker_either := (PySem.W.fnOf "either" "NodeMaker.either" (defArgs s_NodeMaker_either) (defBody s_NodeMaker_either) (defScope s_NodeMaker_either) .none kV_NodeMaker_either dc_NodeMaker_either pm_NodeMaker_either an_NodeMaker_either cd_NodeMaker_either ct_NodeMaker_either), f_QueuePlace_width := f_QueuePlace_width, fd_QueuePlace_width := (PySem.W.fnOf "width" "QueuePlace.width" (defArgs s_QueuePlace_width) (defBody s_QueuePlace_width) (defScope s_QueuePlace_width) .none kV_QueuePlace_width dc_QueuePlace_width pm_QueuePlace_width an_QueuePlace_width cd_QueuePlace_width ct_QueuePlace_width), f_put_place := f_put_place, fd_put_place := (PySem.W.fnOf "put_place" "put_place" (defArgs s_put_place) (defBody s_put_place) (defScope s_put_place) .none kV_put_place dc_put_place pm_put_place an_put_place cd_put_place ct_put_place), f_check_net_rows := f_check_net_rows, fd_check_net_rows := (PySem.W.fnOf "check_net_rows" "check_net_rows" (defArgs s_check_net_rows) (defBody s_check_net_rows) (defScope s_check_net_rows) .none kV_check_net_rows dc_check_net_rows pm_check_net_rows an_check_net_rows cd_check_net_rows ct_check_net_rows), f_is_count := f_is_count, fd_is_count := (PySem.W.fnOf "is_count" "is_count" (defArgs s_is_count) (defBody s_is_count) (defScope s_is_count) .none kV_is_count dc_is_count pm_is_count an_is_count cd_is_count ct_is_count), f_is_word := f_is_word, fd_is_word := (PySem.W.fnOf "is_word" "is_word" (defArgs s_is_word) (defBody s_is_word) (defScope s_is_word) .none kV_is_word dc_is_word pm_is_word an_is_word cd_is_word ct_is_word), f_is_net_source := f_is_net_source, fd_is_net_source := (PySem.W.fnOf "is_net_source" "is_net_source" (defArgs s_is_net_source) (defBody s_is_net_source) (defScope s_is_net_source) .none kV_is_net_source dc_is_net_source pm_is_net_source an_is_net_source cd_is_net_source ct_is_net_source), f_is_net_flop := f_is_net_flop, fd_is_net_flop := (PySem.W.fnOf "is_net_flop" "is_net_flop" (defArgs s_is_net_flop) (defBody s_is_net_flop) (defScope s_is_net_flop) .none kV_is_net_flop dc_is_net_flop pm_is_net_flop an_is_net_flop cd_is_net_flop ct_is_net_flop), f_is_net_node := f_is_net_node, fd_is_net_node := (PySem.W.fnOf "is_net_node" "is_net_node" (defArgs s_is_net_node) (defBody s_is_net_node) (defScope s_is_net_node) .none kV_is_net_node dc_is_net_node pm_is_net_node an_is_net_node cd_is_net_node ct_is_net_node), f_is_net_output := f_is_net_output, fd_is_net_output := (PySem.W.fnOf "is_net_output" "is_net_output" (defArgs s_is_net_output) (defBody s_is_net_output) (defScope s_is_net_output) .none kV_is_net_output dc_is_net_output pm_is_net_output an_is_net_output cd_is_net_output ct_is_net_output), f_Net_init := f_Net_init, fd_Net_init := (PySem.W.fnOf "__init__" "Net.__init__" (defArgs s_Net_init) (defBody s_Net_init) (defScope s_Net_init) .none kV_Net_init dc_Net_init pm_Net_init an_Net_init (.ref co_Net_init) ct_Net_init), f__law_pick := f__law_pick, fd__law_pick := (PySem.W.fnOf "_law_pick" "_law_pick" (defArgs s__law_pick) (defBody s__law_pick) (defScope s__law_pick) .none kV__law_pick dc__law_pick pm__law_pick an__law_pick cd__law_pick ct__law_pick), f_taken_place := f_taken_place, fd_taken_place := (PySem.W.fnOf "taken_place" "taken_place" (defArgs s_taken_place) (defBody s_taken_place) (defScope s_taken_place) .none kV_taken_place dc_taken_place pm_taken_place an_taken_place cd_taken_place ct_taken_place), f__law_bits := f__law_bits, fd__law_bits := (PySem.W.fnOf "_law_bits" "_law_bits" (defArgs s__law_bits) (defBody s__law_bits) (defScope s__law_bits) .none kV__law_bits dc__law_bits pm__law_bits an__law_bits cd__law_bits ct__law_bits), f_queue_names := f_queue_names, fd_queue_names := (PySem.W.fnOf "queue_names" "queue_names" (defArgs s_queue_names) (defBody s_queue_names) (defScope s_queue_names) .none kV_queue_names dc_queue_names pm_queue_names an_queue_names cd_queue_names ct_queue_names), f_queue_sources := f_queue_sources, fd_queue_sources := (PySem.W.fnOf "queue_sources" "queue_sources" (defArgs s_queue_sources) (defBody s_queue_sources) (defScope s_queue_sources) .none kV_queue_sources dc_queue_sources pm_queue_sources an_queue_sources cd_queue_sources ct_queue_sources), f__law_told := f__law_told, fd__law_told := (PySem.W.fnOf "_law_told" "_law_told" (defArgs s__law_told) (defBody s__law_told) (defScope s__law_told) .none kV__law_told dc__law_told pm__law_told an__law_told cd__law_told ct__law_told), f_node_told := f_node_told, fd_node_told := (PySem.W.fnOf "node_told" "node_told" (defArgs s_node_told) (defBody s_node_told) (defScope s_node_told) .none kV_node_told dc_node_told pm_node_told an_node_told cd_node_told ct_node_told), f_net_values := f_net_values, fd_net_values := (PySem.W.fnOf "net_values" "net_values" (defArgs s_net_values) (defBody s_net_values) (defScope s_net_values) .none kV_net_values dc_net_values pm_net_values an_net_values cd_net_values ct_net_values), f_is_bits := f_is_bits, fd_is_bits := (PySem.W.fnOf "is_bits" "is_bits" (defArgs s_is_bits) (defBody s_is_bits) (defScope s_is_bits) .none kV_is_bits dc_is_bits pm_is_bits an_is_bits cd_is_bits ct_is_bits), f_net_cycle := f_net_cycle, fd_net_cycle := (PySem.W.fnOf "net_cycle" "net_cycle" (defArgs s_net_cycle) (defBody s_net_cycle) (defScope s_net_cycle) .none kV_net_cycle dc_net_cycle pm_net_cycle an_net_cycle cd_net_cycle ct_net_cycle), f__law_same := f__law_same, fd__law_same := (PySem.W.fnOf "_law_same" "_law_same" (defArgs s__law_same) (defBody s__law_same) (defScope s__law_same) .none kV__law_same dc__law_same pm__law_same an__law_same cd__law_same ct__law_same), f_has_words := f_has_words, fd_has_words := (PySem.W.fnOf "has_words" "has_words" (defArgs s_has_words) (defBody s_has_words) (defScope s_has_words) .none kV_has_words dc_has_words pm_has_words an_has_words cd_has_words ct_has_words), f_has_place_for := f_has_place_for, fd_has_place_for := (PySem.W.fnOf "has_place_for" "has_place_for" (defArgs s_has_place_for) (defBody s_has_place_for) (defScope s_has_place_for) .none kV_has_place_for dc_has_place_for pm_has_place_for an_has_place_for cd_has_place_for ct_has_place_for), f_queue_bits := f_queue_bits, fd_queue_bits := (PySem.W.fnOf "queue_bits" "queue_bits" (defArgs s_queue_bits) (defBody s_queue_bits) (defScope s_queue_bits) .none kV_queue_bits dc_queue_bits pm_queue_bits an_queue_bits cd_queue_bits ct_queue_bits), f_queue_of_bits := f_queue_of_bits, fd_queue_of_bits := (PySem.W.fnOf "queue_of_bits" "queue_of_bits" (defArgs s_queue_of_bits) (defBody s_queue_of_bits) (defScope s_queue_of_bits) .none kV_queue_of_bits dc_queue_of_bits pm_queue_of_bits an_queue_of_bits cd_queue_of_bits ct_queue_of_bits), f__law_back := f__law_back, fd__law_back := (PySem.W.fnOf "_law_back" "_law_back" (defArgs s__law_back) (defBody s__law_back) (defScope s__law_back) .none kV__law_back dc__law_back pm__law_back an__law_back cd__law_back ct__law_back), f_law := fa, fd_law := (PySem.W.fnOf "law" "law" (defArgs s_law) (defBody s_law) (defScope s_law) .none kV_law dc_law pm_law an_law cd_law ct_law), t_AND2 := t_AND2, t_OR2 := t_OR2, t_NOT1 := t_NOT1, t_PICK3 := t_PICK3, co_Net_init := co_Net_init, ta_Net_init := ta_Net_init } := { n_tuple := PySem.W.mg_none_of X G z_tuple, n_len := PySem.W.mg_none_of X G z_len, n_range := PySem.W.mg_none_of X G z_range, n_min := PySem.W.mg_none_of X G z_min, n_isinstance := PySem.W.mg_none_of X G z_isinstance, n_int := PySem.W.mg_none_of X G z_int, n_bool := PySem.W.mg_none_of X G z_bool, n_str := PySem.W.mg_none_of X G z_str, n_all := PySem.W.mg_none_of X G z_all, n_abs := PySem.W.mg_none_of X G z_abs, n_list := PySem.W.mg_none_of X G z_list, n_sum := PySem.W.mg_none_of X G z_sum, c_AND2 := PySem.W.mg_of X G u_AND2, c_OR2 := PySem.W.mg_of X G u_OR2, c_NOT1 := PySem.W.mg_of X G u_NOT1, c_PICK3 := PySem.W.mg_of X G u_PICK3, a_QueuePlace := PySem.W.mg_of X G a_QueuePlace, a_CityError := PySem.W.mg_of X G a_CityError, a_InvalidNet := PySem.W.mg_of X G a_InvalidNet, a_Net := PySem.W.mg_of X G a_Net, a_NodeMaker := PySem.W.mg_of X G a_NodeMaker, E_CityError := E_CityError, sv_CityError := ⟨OPC, M1_CityError, S1_CityError⟩, E_InvalidNet := E_InvalidNet, so_InvalidNet := ⟨OPC, M1_InvalidNet, S1_InvalidNet⟩, sv_InvalidNet := ⟨OPC, M2_InvalidNet, S2_InvalidNet⟩, in_QueuePlace := in_QueuePlace, no_QueuePlace := no_QueuePlace, mk_QueuePlace := ⟨mk_QueuePlace, i_QueuePlace_init, fn_QueuePlace_init, kc_QueuePlace⟩, in_Net := in_Net, no_Net := no_Net, mk_Net := ⟨mk_Net, i_Net_init, fn_Net_init, kc_Net⟩, in_NodeMaker := in_NodeMaker, no_NodeMaker := no_NodeMaker, mk_NodeMaker := ⟨mk_NodeMaker, i_NodeMaker_init, fn_NodeMaker_init, kc_NodeMaker⟩, m__law_start := PySem.W.mg_of X G a__law_start, F__law_start := F__law_start, b__law_start := b__law_start, me_NodeMaker_init := ⟨i_NodeMaker_init, fn_NodeMaker_init, k_NodeMaker_init⟩, F_NodeMaker_init := F_NodeMaker_init, b_NodeMaker_init := b_NodeMaker_init, me_QueuePlace_init := ⟨i_QueuePlace_init, fn_QueuePlace_init, k_QueuePlace_init⟩, F_QueuePlace_init := F_QueuePlace_init, b_QueuePlace_init := b_QueuePlace_init, me_QueuePlace_room := ⟨i_QueuePlace_room, fn_QueuePlace_room, k_QueuePlace_room⟩, F_QueuePlace_room := F_QueuePlace_room, b_QueuePlace_room := b_QueuePlace_room, me_NodeMaker_node := ⟨i_NodeMaker_node, fn_NodeMaker_node, k_NodeMaker_node⟩, F_NodeMaker_node := F_NodeMaker_node, b_NodeMaker_node := b_NodeMaker_node, me_NodeMaker_pick := ⟨i_NodeMaker_pick, fn_NodeMaker_pick, k_NodeMaker_pick⟩, F_NodeMaker_pick := F_NodeMaker_pick, b_NodeMaker_pick := b_NodeMaker_pick, me_NodeMaker_both := ⟨i_NodeMaker_both, fn_NodeMaker_both, k_NodeMaker_both⟩, F_NodeMaker_both := F_NodeMaker_both, b_NodeMaker_both := b_NodeMaker_both, me_NodeMaker_turned := ⟨i_NodeMaker_turned, fn_NodeMaker_turned, k_NodeMaker_turned⟩, F_NodeMaker_turned := F_NodeMaker_turned, b_NodeMaker_turned := b_NodeMaker_turned, m_is_length := PySem.W.mg_of X G a_is_length, F_is_length := F_is_length, b_is_length := b_is_length, me_NodeMaker_either := ⟨i_NodeMaker_either, fn_NodeMaker_either, k_NodeMaker_either⟩, F_NodeMaker_either := F_NodeMaker_either, b_NodeMaker_either := b_NodeMaker_either, me_QueuePlace_width := ⟨i_QueuePlace_width, fn_QueuePlace_width, k_QueuePlace_width⟩, F_QueuePlace_width := F_QueuePlace_width, b_QueuePlace_width := b_QueuePlace_width, m_put_place := PySem.W.mg_of X G a_put_place, F_put_place := F_put_place, b_put_place := b_put_place, m_check_net_rows := PySem.W.mg_of X G a_check_net_rows, F_check_net_rows := F_check_net_rows, b_check_net_rows := b_check_net_rows, m_is_count := PySem.W.mg_of X G a_is_count, F_is_count := F_is_count, b_is_count := b_is_count, m_is_word := PySem.W.mg_of X G a_is_word, F_is_word := F_is_word, b_is_word := b_is_word, m_is_net_source := PySem.W.mg_of X G a_is_net_source, F_is_net_source := F_is_net_source, b_is_net_source := b_is_net_source, m_is_net_flop := PySem.W.mg_of X G a_is_net_flop, F_is_net_flop := F_is_net_flop, b_is_net_flop := b_is_net_flop, m_is_net_node := PySem.W.mg_of X G a_is_net_node, F_is_net_node := F_is_net_node, b_is_net_node := b_is_net_node, m_is_net_output := PySem.W.mg_of X G a_is_net_output, F_is_net_output := F_is_net_output, b_is_net_output := b_is_net_output, me_Net_init := ⟨i_Net_init, fn_Net_init, k_Net_init⟩, F_Net_init := ⟨F_Net_init, rfl⟩, b_Net_init := b_Net_init, m__law_pick := PySem.W.mg_of X G a__law_pick, F__law_pick := F__law_pick, b__law_pick := b__law_pick, m_taken_place := PySem.W.mg_of X G a_taken_place, F_taken_place := F_taken_place, b_taken_place := b_taken_place, m__law_bits := PySem.W.mg_of X G a__law_bits, F__law_bits := F__law_bits, b__law_bits := b__law_bits, m_queue_names := PySem.W.mg_of X G a_queue_names, F_queue_names := F_queue_names, b_queue_names := b_queue_names, m_queue_sources := PySem.W.mg_of X G a_queue_sources, F_queue_sources := F_queue_sources, b_queue_sources := b_queue_sources, m__law_told := PySem.W.mg_of X G a__law_told, F__law_told := F__law_told, b__law_told := b__law_told, m_node_told := PySem.W.mg_of X G a_node_told, F_node_told := F_node_told, b_node_told := b_node_told, m_net_values := PySem.W.mg_of X G a_net_values, F_net_values := F_net_values, b_net_values := b_net_values, m_is_bits := PySem.W.mg_of X G a_is_bits, F_is_bits := F_is_bits, b_is_bits := b_is_bits, m_net_cycle := PySem.W.mg_of X G a_net_cycle, F_net_cycle := F_net_cycle, b_net_cycle := b_net_cycle, m__law_same := PySem.W.mg_of X G a__law_same, F__law_same := F__law_same, b__law_same := b__law_same, m_has_words := PySem.W.mg_of X G a_has_words, F_has_words := F_has_words, b_has_words := b_has_words, m_has_place_for := PySem.W.mg_of X G a_has_place_for, F_has_place_for := F_has_place_for, b_has_place_for := b_has_place_for, m_queue_bits := PySem.W.mg_of X G a_queue_bits, F_queue_bits := F_queue_bits, b_queue_bits := b_queue_bits, m_queue_of_bits := PySem.W.mg_of X G a_queue_of_bits, F_queue_of_bits := F_queue_of_bits, b_queue_of_bits := b_queue_of_bits, m__law_back := PySem.W.mg_of X G a__law_back, F__law_back := F__law_back, b__law_back := b__law_back, m_law := PySem.W.mg_of X G a_law, F_law := F_law, b_law := b_law, ut := ut }
  refine law_at X HT ?_ ?_ ?_ ?_ (fun s v => .of_eq rfl) (fun base _ _ TB => law_ok (T := kt K l.prog w _) law_val (ok_law Tx TB))
  · exact List.forall_mem_cons.mpr ⟨tm_Net_init, fun _ h => nomatch h⟩
  · exact List.forall_mem_cons.mpr ⟨nt_Net_init, fun _ h => nomatch h⟩
  · exact List.forall_mem_cons.mpr ⟨hd_Net_init, fun _ h => nomatch h⟩
  · rfl
end LW
open PySem PySem.W PyProof.Rows
set_option maxRecDepth 100000 in
set_option maxHeartbeats 0 in
theorem PySem.Challenge.cw_citywright_k19_whole_queues_as_circuits_holds : PySem.Challenge.rw_citywright_k19_whole_queues_as_circuits.Holds := by
  w_on; o_law; k_head; (case hw => w_witness2)
  k_fill
  refine VM.walk (k := 11) (l := PySem.Challenge.rw_citywright_k19_whole_queues_as_circuits) (by decide) rfl rfl (fun w h Y => PySem.W.km_in_of Y) ?F
  case F =>
    intro w mg fa h Y KX G hmg
    refine' LW.all_mk KX G hmg (PySem.W.km_tabs_of Y) ?a_QueuePlace ?a_CityError ?a_InvalidNet ?a_Net ?a_NodeMaker ?L_CityError ?B_CityError ?R_CityError ?I_CityError ?Y_CityError ?V_CityError ?LF_CityError ?LC_CityError ?CO_CityError ?LO_CityError ?VS_CityError ?CI_CityError ?M1_CityError ?S1_CityError ?L_InvalidNet ?B_InvalidNet ?R_InvalidNet ?I_InvalidNet ?Y_InvalidNet ?V_InvalidNet ?LF_InvalidNet ?LC_InvalidNet ?CO_InvalidNet ?LO_InvalidNet ?VS_InvalidNet ?CI_InvalidNet ?M1_InvalidNet ?S1_InvalidNet ?M2_InvalidNet ?S2_InvalidNet ?OPC ?TOP ?z_super ?in_QueuePlace ?no_QueuePlace ?mk_QueuePlace ?kc_QueuePlace ?in_Net ?no_Net ?mk_Net ?kc_Net ?in_NodeMaker ?no_NodeMaker ?mk_NodeMaker ?kc_NodeMaker ?a__law_start ?l__law_start ?c__law_start ?k__law_start ?i_NodeMaker_init ?l_NodeMaker_init ?c_NodeMaker_init ?k_NodeMaker_init ?fn_NodeMaker_init ?i_QueuePlace_init ?l_QueuePlace_init ?c_QueuePlace_init ?k_QueuePlace_init ?fn_QueuePlace_init ?i_QueuePlace_room ?l_QueuePlace_room ?c_QueuePlace_room ?k_QueuePlace_room ?fn_QueuePlace_room ?i_NodeMaker_node ?l_NodeMaker_node ?c_NodeMaker_node ?k_NodeMaker_node ?fn_NodeMaker_node ?i_NodeMaker_pick ?l_NodeMaker_pick ?c_NodeMaker_pick ?k_NodeMaker_pick ?fn_NodeMaker_pick ?i_NodeMaker_both ?l_NodeMaker_both ?c_NodeMaker_both ?k_NodeMaker_both ?fn_NodeMaker_both ?i_NodeMaker_turned ?l_NodeMaker_turned ?c_NodeMaker_turned ?k_NodeMaker_turned ?fn_NodeMaker_turned ?a_is_length ?l_is_length ?c_is_length ?k_is_length ?i_NodeMaker_either ?l_NodeMaker_either ?c_NodeMaker_either ?k_NodeMaker_either ?fn_NodeMaker_either ?i_QueuePlace_width ?l_QueuePlace_width ?c_QueuePlace_width ?k_QueuePlace_width ?fn_QueuePlace_width ?a_put_place ?l_put_place ?c_put_place ?k_put_place ?a_check_net_rows ?l_check_net_rows ?c_check_net_rows ?k_check_net_rows ?a_is_count ?l_is_count ?c_is_count ?k_is_count ?a_is_word ?l_is_word ?c_is_word ?k_is_word ?a_is_net_source ?l_is_net_source ?c_is_net_source ?k_is_net_source ?a_is_net_flop ?l_is_net_flop ?c_is_net_flop ?k_is_net_flop ?a_is_net_node ?l_is_net_node ?c_is_net_node ?k_is_net_node ?a_is_net_output ?l_is_net_output ?c_is_net_output ?k_is_net_output ?i_Net_init ?l_Net_init ?c_Net_init ?lo_Net_init ?vp_Net_init ?hd_Net_init ?nt_Net_init ?tm_Net_init ?k_Net_init ?fn_Net_init ?a__law_pick ?l__law_pick ?c__law_pick ?k__law_pick ?a_taken_place ?l_taken_place ?c_taken_place ?k_taken_place ?a__law_bits ?l__law_bits ?c__law_bits ?k__law_bits ?a_queue_names ?l_queue_names ?c_queue_names ?k_queue_names ?a_queue_sources ?l_queue_sources ?c_queue_sources ?k_queue_sources ?a__law_told ?l__law_told ?c__law_told ?k__law_told ?a_node_told ?l_node_told ?c_node_told ?k_node_told ?a_net_values ?l_net_values ?c_net_values ?k_net_values ?a_is_bits ?l_is_bits ?c_is_bits ?k_is_bits ?a_net_cycle ?l_net_cycle ?c_net_cycle ?k_net_cycle ?a__law_same ?l__law_same ?c__law_same ?k__law_same ?a_has_words ?l_has_words ?c_has_words ?k_has_words ?a_has_place_for ?l_has_place_for ?c_has_place_for ?k_has_place_for ?a_queue_bits ?l_queue_bits ?c_queue_bits ?k_queue_bits ?a_queue_of_bits ?l_queue_of_bits ?c_queue_of_bits ?k_queue_of_bits ?a__law_back ?l__law_back ?c__law_back ?k__law_back ?a_law ?l_law ?c_law ?k_law ?z_tuple ?z_len ?z_range ?z_min ?z_isinstance ?z_int ?z_bool ?z_str ?z_all ?z_abs ?z_list ?z_sum ?u_AND2 ?u_OR2 ?u_NOT1 ?u_PICK3 ?ut
    (case a_QueuePlace => k_is)
    (case a_CityError => k_is)
    (case a_InvalidNet => k_is)
    (case a_Net => k_is)
    (case a_NodeMaker => k_is)
    (case L_CityError => k_is)
    (case B_CityError => kernel_rfl)
    (case R_CityError => kernel_rfl)
    (case I_CityError => k_is)
    (case Y_CityError => k_is)
    (case V_CityError => k_is)
    (case LF_CityError => k_is)
    (case LC_CityError => k_is)
    (case CO_CityError => k_is)
    (case LO_CityError => k_is)
    (case VS_CityError => exact rfl)
    (case CI_CityError => k_is)
    (case M1_CityError => k_is)
    (case S1_CityError => kernel_rfl)
    (case L_InvalidNet => k_is)
    (case B_InvalidNet => kernel_rfl)
    (case R_InvalidNet => kernel_rfl)
    (case I_InvalidNet => k_is)
    (case Y_InvalidNet => k_is)
    (case V_InvalidNet => k_is)
    (case LF_InvalidNet => k_is)
    (case LC_InvalidNet => k_is)
    (case CO_InvalidNet => k_is)
    (case LO_InvalidNet => k_is)
    (case VS_InvalidNet => exact rfl)
    (case CI_InvalidNet => k_is)
    (case M1_InvalidNet => k_is)
    (case S1_InvalidNet => kernel_rfl)
    (case M2_InvalidNet => k_is)
    (case S2_InvalidNet => kernel_rfl)
    (case OPC => k_is)
    (case TOP => first | kernel_rfl | decide +kernel)
    (case z_super => k_is)
    (case in_QueuePlace => kernel_rfl)
    (case no_QueuePlace => kernel_rfl)
    (case mk_QueuePlace => k_is)
    (case kc_QueuePlace => k_is)
    (case in_Net => kernel_rfl)
    (case no_Net => kernel_rfl)
    (case mk_Net => k_is)
    (case kc_Net => k_is)
    (case in_NodeMaker => kernel_rfl)
    (case no_NodeMaker => kernel_rfl)
    (case mk_NodeMaker => k_is)
    (case kc_NodeMaker => k_is)
    (case a__law_start => k_is)
    (case l__law_start => k_is)
    (case c__law_start => k_is)
    (case k__law_start => k_is)
    (case i_NodeMaker_init => k_is)
    (case l_NodeMaker_init => k_is)
    (case c_NodeMaker_init => k_is)
    (case k_NodeMaker_init => k_is)
    (case fn_NodeMaker_init => k_is)
    (case i_QueuePlace_init => k_is)
    (case l_QueuePlace_init => k_is)
    (case c_QueuePlace_init => k_is)
    (case k_QueuePlace_init => k_is)
    (case fn_QueuePlace_init => k_is)
    (case i_QueuePlace_room => k_is)
    (case l_QueuePlace_room => k_is)
    (case c_QueuePlace_room => k_is)
    (case k_QueuePlace_room => k_is)
    (case fn_QueuePlace_room => k_is)
    (case i_NodeMaker_node => k_is)
    (case l_NodeMaker_node => k_is)
    (case c_NodeMaker_node => k_is)
    (case k_NodeMaker_node => k_is)
    (case fn_NodeMaker_node => k_is)
    (case i_NodeMaker_pick => k_is)
    (case l_NodeMaker_pick => k_is)
    (case c_NodeMaker_pick => k_is)
    (case k_NodeMaker_pick => k_is)
    (case fn_NodeMaker_pick => k_is)
    (case i_NodeMaker_both => k_is)
    (case l_NodeMaker_both => k_is)
    (case c_NodeMaker_both => k_is)
    (case k_NodeMaker_both => k_is)
    (case fn_NodeMaker_both => k_is)
    (case i_NodeMaker_turned => k_is)
    (case l_NodeMaker_turned => k_is)
    (case c_NodeMaker_turned => k_is)
    (case k_NodeMaker_turned => k_is)
    (case fn_NodeMaker_turned => k_is)
    (case a_is_length => k_is)
    (case l_is_length => k_is)
    (case c_is_length => k_is)
    (case k_is_length => k_is)
    (case i_NodeMaker_either => k_is)
    (case l_NodeMaker_either => k_is)
    (case c_NodeMaker_either => k_is)
    (case k_NodeMaker_either => k_is)
    (case fn_NodeMaker_either => k_is)
    (case i_QueuePlace_width => k_is)
    (case l_QueuePlace_width => k_is)
    (case c_QueuePlace_width => k_is)
    (case k_QueuePlace_width => k_is)
    (case fn_QueuePlace_width => k_is)
    (case a_put_place => k_is)
    (case l_put_place => k_is)
    (case c_put_place => k_is)
    (case k_put_place => k_is)
    (case a_check_net_rows => k_is)
    (case l_check_net_rows => k_is)
    (case c_check_net_rows => k_is)
    (case k_check_net_rows => k_is)
    (case a_is_count => k_is)
    (case l_is_count => k_is)
    (case c_is_count => k_is)
    (case k_is_count => k_is)
    (case a_is_word => k_is)
    (case l_is_word => k_is)
    (case c_is_word => k_is)
    (case k_is_word => k_is)
    (case a_is_net_source => k_is)
    (case l_is_net_source => k_is)
    (case c_is_net_source => k_is)
    (case k_is_net_source => k_is)
    (case a_is_net_flop => k_is)
    (case l_is_net_flop => k_is)
    (case c_is_net_flop => k_is)
    (case k_is_net_flop => k_is)
    (case a_is_net_node => k_is)
    (case l_is_net_node => k_is)
    (case c_is_net_node => k_is)
    (case k_is_net_node => k_is)
    (case a_is_net_output => k_is)
    (case l_is_net_output => k_is)
    (case c_is_net_output => k_is)
    (case k_is_net_output => k_is)
    (case i_Net_init => k_is)
    (case l_Net_init => k_is)
    (case c_Net_init => k_is)
    (case lo_Net_init => k_is)
    (case vp_Net_init => exact rfl)
    (case hd_Net_init => kernel_rfl)
    (case nt_Net_init => kernel_rfl)
    (case tm_Net_init => first | k_mem | decide)
    (case k_Net_init => k_is)
    (case fn_Net_init => k_is)
    (case a__law_pick => k_is)
    (case l__law_pick => k_is)
    (case c__law_pick => k_is)
    (case k__law_pick => k_is)
    (case a_taken_place => k_is)
    (case l_taken_place => k_is)
    (case c_taken_place => k_is)
    (case k_taken_place => k_is)
    (case a__law_bits => k_is)
    (case l__law_bits => k_is)
    (case c__law_bits => k_is)
    (case k__law_bits => k_is)
    (case a_queue_names => k_is)
    (case l_queue_names => k_is)
    (case c_queue_names => k_is)
    (case k_queue_names => k_is)
    (case a_queue_sources => k_is)
    (case l_queue_sources => k_is)
    (case c_queue_sources => k_is)
    (case k_queue_sources => k_is)
    (case a__law_told => k_is)
    (case l__law_told => k_is)
    (case c__law_told => k_is)
    (case k__law_told => k_is)
    (case a_node_told => k_is)
    (case l_node_told => k_is)
    (case c_node_told => k_is)
    (case k_node_told => k_is)
    (case a_net_values => k_is)
    (case l_net_values => k_is)
    (case c_net_values => k_is)
    (case k_net_values => k_is)
    (case a_is_bits => k_is)
    (case l_is_bits => k_is)
    (case c_is_bits => k_is)
    (case k_is_bits => k_is)
    (case a_net_cycle => k_is)
    (case l_net_cycle => k_is)
    (case c_net_cycle => k_is)
    (case k_net_cycle => k_is)
    (case a__law_same => k_is)
    (case l__law_same => k_is)
    (case c__law_same => k_is)
    (case k__law_same => k_is)
    (case a_has_words => k_is)
    (case l_has_words => k_is)
    (case c_has_words => k_is)
    (case k_has_words => k_is)
    (case a_has_place_for => k_is)
    (case l_has_place_for => k_is)
    (case c_has_place_for => k_is)
    (case k_has_place_for => k_is)
    (case a_queue_bits => k_is)
    (case l_queue_bits => k_is)
    (case c_queue_bits => k_is)
    (case k_queue_bits => k_is)
    (case a_queue_of_bits => k_is)
    (case l_queue_of_bits => k_is)
    (case c_queue_of_bits => k_is)
    (case k_queue_of_bits => k_is)
    (case a__law_back => k_is)
    (case l__law_back => k_is)
    (case c__law_back => k_is)
    (case k__law_back => k_is)
    (case a_law => k_is)
    (case l_law => k_is)
    (case c_law => k_is)
    (case k_law => k_is)
    (case z_tuple => k_is)
    (case z_len => k_is)
    (case z_range => k_is)
    (case z_min => k_is)
    (case z_isinstance => k_is)
    (case z_int => k_is)
    (case z_bool => k_is)
    (case z_str => k_is)
    (case z_all => k_is)
    (case z_abs => k_is)
    (case z_list => k_is)
    (case z_sum => k_is)
    (case u_AND2 => k_is)
    (case u_OR2 => k_is)
    (case u_NOT1 => k_is)
    (case u_PICK3 => k_is)
    (case ut => kernel_rfl)
