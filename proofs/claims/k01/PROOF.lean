import PyProof.Rows.All
import Wide.All
import OpenK.AllK
import Wide.FinOn
import HandS.ForMost
import HandS.Flow
import HandS.IsInst
import HandS.TupAny
import HandS.TupMul
import PySem.Challenge.RW_citywright_k01_whole_words_and_bits
set_option Elab.async false
set_option maxRecDepth 100000
set_option maxHeartbeats 4000000
set_option linter.all false
set_option autoImplicit false
/-! Values without addresses: what an expression gives, as a plain function. -/
namespace VL
open PySem L2

/-- a datum: nothing, bools, ints, texts; a list or a tuple that nobody changes any more; an owned list by its number; a list that is locked -/
inductive D where
  | non | bl (b : Bool) | int (i : Int) | str (s : Str) | lst (ds : List D) | tup (ds : List D) | own (l : Nat) | lck (ds : List D)

abbrev Sto := List (List D)
abbrev Rho := List (Option D)
/-- the owned objects' places; those of lists that are just being made -/
structure Ws where
  own : List Addr
  hid : List Addr

mutual
def Rep (K : PySem.W.Frag) (ws : Ws) (H : Hp) : D → V → Prop
  | .non, v => v = .non
  | .bl b, v => v = .bl b
  | .int i, v => v = .int i
  | .str x, v => v = .str x
  | .lst ds, v => ∃ a xs, v = .ref a ∧ H a = some (.lst xs) ∧ Reps K ws H ds xs
  | .tup ds, v => ∃ a xs, v = .ref a ∧ SqT K H a xs ∧ Reps K ws H ds xs
  | .own l, v => ∃ a, ws.own[l]? = some a ∧ v = .ref a
  | .lck ds, v => ∃ a xs, v = .ref a ∧ SqL K H a xs ∧ Reps K ws H ds xs
def Reps (K : PySem.W.Frag) (ws : Ws) (H : Hp) : List D → List V → Prop
  | [], vs => vs = []
  | d :: ds, vs => ∃ v r, vs = v :: r ∧ Rep K ws H d v ∧ Reps K ws H ds r
end

/-- the heap without the owned objects -/
def mask (ws : Ws) (H : Hp) : Hp := fun a => if a ∈ ws.own ∨ a ∈ ws.hid then none else H a
theorem mask_some {ws : Ws} {H : Hp} {a : Addr} {o : HO} (h : mask ws H a = some o) : (a ∉ ws.own ∧ a ∉ ws.hid) ∧ H a = some o := by
  unfold mask at h
  split at h
  · cases h
  · rename_i n
    exact ⟨⟨fun z => n (.inl z), fun z => n (.inr z)⟩, h⟩
theorem mask_of {ws : Ws} {H : Hp} {a : Addr} (h : a ∉ ws.own ∧ a ∉ ws.hid) : mask ws H a = H a := by
  unfold mask
  rw [if_neg (fun z => z.elim h.1 h.2)]
/-- what was frozen stays -/
structure Stp (ws : Ws) (H : Hp) (ws' : Ws) (H' : Hp) : Prop where
  pre : ws.own <+: ws'.own
  hid : ∀ a, a ∈ ws.hid → a ∈ ws'.hid
  fz : ∀ a o, mask ws H a = some o → mask ws' H' a = some o
  hk : ∀ a ∈ ws.hid, H' a = H a
theorem Stp.refl (ws : Ws) (H : Hp) : Stp ws H ws H := ⟨List.prefix_refl _, fun _ z => z, fun _ _ h => h, fun _ _ => rfl⟩
theorem Stp.trans {ws ws1 ws2 : Ws} {H H1 H2 : Hp} (a : Stp ws H ws1 H1) (b : Stp ws1 H1 ws2 H2) : Stp ws H ws2 H2 :=
  ⟨a.pre.trans b.pre, fun c h => b.hid c (a.hid c h), fun c o h => b.fz c o (a.fz c o h), fun c h => (b.hk c (a.hid c h)).trans (a.hk c h)⟩
theorem sqL_mono {K : PySem.W.Frag} {H H' : Hp} (e : ∀ a o, H a = some o → H' a = some o) {a : Addr} {xs : List V} (h : SqL K H a xs) : SqL K H' a xs := by
  rcases h with (h | ⟨o, h⟩) | h
  · exact .inl (.inl (e _ _ h))
  · exact .inl (.inr ⟨o, e _ _ h⟩)
  · exact .inr h
theorem sqT_mono {K : PySem.W.Frag} {H H' : Hp} (e : ∀ a o, H a = some o → H' a = some o) {a : Addr} {xs : List V} (h : SqT K H a xs) : SqT K H' a xs := by
  rcases h with (h | ⟨o, h⟩) | h
  · exact .inl (.inl (e _ _ h))
  · exact .inl (.inr ⟨o, e _ _ h⟩)
  · exact .inr h
theorem sqL_un {K : PySem.W.Frag} {ws : Ws} {H : Hp} {a : Addr} {xs : List V} (h : SqL K (mask ws H) a xs) : SqL K H a xs := sqL_mono (fun _ _ z => (mask_some z).2) h
theorem sqT_un {K : PySem.W.Frag} {ws : Ws} {H : Hp} {a : Addr} {xs : List V} (h : SqT K (mask ws H) a xs) : SqT K H a xs := sqT_mono (fun _ _ z => (mask_some z).2) h
theorem pre_get {ws ws' : List Addr} (p : ws <+: ws') {l : Nat} {a : Addr} (h : ws[l]? = some a) : ws'[l]? = some a := by
  obtain ⟨t, rfl⟩ := p
  have := (List.getElem?_eq_some_iff.mp h).1
  rw [List.getElem?_append_left this]
  exact h
mutual
theorem Rep.mono {K : PySem.W.Frag} {ws ws' : Ws} {H H' : Hp} (p : ws.own <+: ws'.own) (e : ∀ a o, H a = some o → H' a = some o) : ∀ (d : D) (v : V), Rep K ws H d v → Rep K ws' H' d v
  | .non, _, h => h
  | .bl _, _, h => h
  | .int _, _, h => h
  | .str _, _, h => h
  | .lst ds, _, ⟨a, xs, hv, hs, hr⟩ => ⟨a, xs, hv, e _ _ hs, Reps.mono p e ds xs hr⟩
  | .lck ds, _, ⟨a, xs, hv, hs, hr⟩ => ⟨a, xs, hv, sqL_mono e hs, Reps.mono p e ds xs hr⟩
  | .tup ds, _, ⟨a, xs, hv, hs, hr⟩ => ⟨a, xs, hv, sqT_mono e hs, Reps.mono p e ds xs hr⟩
  | .own _, _, ⟨a, h, hv⟩ => ⟨a, pre_get p h, hv⟩
theorem Reps.mono {K : PySem.W.Frag} {ws ws' : Ws} {H H' : Hp} (p : ws.own <+: ws'.own) (e : ∀ a o, H a = some o → H' a = some o) : ∀ (ds : List D) (vs : List V), Reps K ws H ds vs → Reps K ws' H' ds vs
  | [], _, h => h
  | d :: ds, _, ⟨v, r, hv, h1, h2⟩ => ⟨v, r, hv, Rep.mono p e d v h1, Reps.mono p e ds r h2⟩
end
theorem Rep.stp {K : PySem.W.Frag} {ws ws' : Ws} {H H' : Hp} (t : Stp ws H ws' H') {d : D} {v : V} (h : Rep K ws (mask ws H) d v) : Rep K ws' (mask ws' H') d v := Rep.mono t.pre t.fz d v h
theorem Reps.stp {K : PySem.W.Frag} {ws ws' : Ws} {H H' : Hp} (t : Stp ws H ws' H') {d : List D} {v : List V} (h : Reps K ws (mask ws H) d v) : Reps K ws' (mask ws' H') d v := Reps.mono t.pre t.fz d v h
theorem Reps.length {K : PySem.W.Frag} {ws : Ws} {H : Hp} : ∀ {ds : List D} {vs : List V}, Reps K ws H ds vs → ds.length = vs.length
  | [], _, h => by cases h; rfl
  | d :: ds, _, ⟨v, r, hv, _, h2⟩ => by rw [hv, List.length_cons, List.length_cons, Reps.length h2]
theorem Reps.get {K : PySem.W.Frag} {ws : Ws} {H : Hp} : ∀ {ds : List D} {vs : List V} {i : Nat} {d : D}, Reps K ws H ds vs → ds[i]? = some d → ∃ v, vs[i]? = some v ∧ Rep K ws H d v
  | [], _, _, _, _, e => by simp at e
  | d :: ds, _, 0, _, ⟨v, r, hv, h1, _⟩, e => by simp at e; subst e; exact ⟨v, by rw [hv]; rfl, h1⟩
  | d :: ds, _, i + 1, _, ⟨v, r, hv, _, h2⟩, e => by
    obtain ⟨v', e', h'⟩ := Reps.get (i := i) h2 (by simpa using e)
    exact ⟨v', by rw [hv]; simpa using e', h'⟩
theorem Reps.get' {K : PySem.W.Frag} {ws : Ws} {H : Hp} : ∀ {ds : List D} {vs : List V} {i : Nat} {v : V}, Reps K ws H ds vs → vs[i]? = some v → ∃ d, ds[i]? = some d ∧ Rep K ws H d v
  | [], _, _, _, h, e => by cases h; simp at e
  | d :: ds, _, 0, _, ⟨v, r, hv, h1, _⟩, e => by rw [hv] at e; simp at e; subst e; exact ⟨d, rfl, h1⟩
  | d :: ds, _, i + 1, _, ⟨v, r, hv, _, h2⟩, e => by
    rw [hv] at e
    obtain ⟨v', e', h'⟩ := Reps.get' (i := i) h2 (by simpa using e)
    exact ⟨v', by simpa using e', h'⟩
theorem Reps.append {K : PySem.W.Frag} {ws : Ws} {H : Hp} : ∀ {ds es : List D} {vs us : List V}, Reps K ws H ds vs → Reps K ws H es us → Reps K ws H (ds ++ es) (vs ++ us)
  | [], _, _, _, h, g => by cases h; exact g
  | d :: ds, _, _, _, ⟨v, r, hv, h1, h2⟩, g => by rw [hv]; exact ⟨v, _, rfl, h1, Reps.append h2 g⟩
theorem Reps.take {K : PySem.W.Frag} {ws : Ws} {H : Hp} : ∀ {ds : List D} {vs : List V} (n : Nat), Reps K ws H ds vs → Reps K ws H (ds.take n) (vs.take n)
  | _, _, 0, _ => by rw [List.take_zero, List.take_zero]; rfl
  | [], _, _ + 1, h => by cases h; rfl
  | d :: ds, _, n + 1, ⟨v, r, hv, h1, h2⟩ => by rw [hv]; exact ⟨v, _, rfl, h1, Reps.take n h2⟩
theorem Reps.drop {K : PySem.W.Frag} {ws : Ws} {H : Hp} : ∀ {ds : List D} {vs : List V} (n : Nat), Reps K ws H ds vs → Reps K ws H (ds.drop n) (vs.drop n)
  | _, _, 0, h => h
  | [], _, _ + 1, h => by cases h; rfl
  | d :: ds, _, n + 1, ⟨v, r, hv, h1, h2⟩ => by rw [hv]; exact Reps.drop n h2
theorem Reps.set {K : PySem.W.Frag} {ws : Ws} {H : Hp} {x : D} {u : V} (hx : Rep K ws H x u) : ∀ {ds : List D} {vs : List V} (n : Nat), Reps K ws H ds vs → Reps K ws H (ds.set n x) (vs.set n u)
  | [], _, _, h => by cases h; rfl
  | d :: ds, _, 0, ⟨v, r, hv, h1, h2⟩ => by rw [hv]; exact ⟨u, r, rfl, hx, h2⟩
  | d :: ds, _, n + 1, ⟨v, r, hv, h1, h2⟩ => by rw [hv]; exact ⟨v, _, rfl, h1, Reps.set hx n h2⟩
theorem Reps.replicate {K : PySem.W.Frag} {ws : Ws} {H : Hp} {ds : List D} {vs : List V} (h : Reps K ws H ds vs) : ∀ n : Nat, Reps K ws H (List.replicate n ds).flatten (List.replicate n vs).flatten
  | 0 => rfl
  | n + 1 => by rw [List.replicate_succ, List.replicate_succ, List.flatten_cons, List.flatten_cons]; exact h.append (Reps.replicate h n)

/-- the owned objects as they stand -/
structure Sta (K : PySem.W.Frag) (ws : Ws) (H : Hp) (s : Sto) : Prop where
  nd : ws.own.Nodup
  len : ws.own.length = s.length
  dis : ∀ a ∈ ws.hid, a ∉ ws.own
  hid : ∀ a ∈ ws.hid, ∃ o, H a = some o
  own : ∀ (l : Nat) (a : Addr) (ds : List D), ws.own[l]? = some a → s[l]? = some ds → ∃ xs, H a = some (.lst xs) ∧ Reps K ws (mask ws H) ds xs
section
variable {K : PySem.W.Frag} {ws : Ws} {H : Hp} {s : Sto} {p : Addr} {o : HO}
theorem Sta.there (S : Sta K ws H s) {a : Addr} (h : a ∈ ws.own) : ∃ o, H a = some o := by
  obtain ⟨l, hl, rfl⟩ := List.getElem_of_mem h
  have e : ws.own[l]? = some ws.own[l] := List.getElem?_eq_getElem hl
  have h2 : l < s.length := by rw [← S.len]; exact hl
  obtain ⟨xs, h3, _⟩ := S.own l _ s[l] e (List.getElem?_eq_getElem h2)
  exact ⟨_, h3⟩
theorem Sta.fresh (S : Sta K ws H s) (h : H p = none) : p ∉ ws.own ∧ p ∉ ws.hid := by
  refine ⟨fun z => ?_, fun z => ?_⟩
  · obtain ⟨o, e⟩ := S.there z
    rw [h] at e
    cases e
  · obtain ⟨o, e⟩ := S.hid p z
    rw [h] at e
    cases e
/-- a new object that is not owned -/
theorem Sta.stp_new (S : Sta K ws H s) (h : H p = none) : Stp ws H ws (upd H p o) :=
  ⟨List.prefix_refl _, fun _ z => z, fun a u e => by
    obtain ⟨n, e⟩ := mask_some e
    rw [mask_of n, upd_ne (ne_of_none e h)]
    exact e, fun a z => upd_ne fun e => (S.fresh h).2 (e ▸ z)⟩
theorem Sta.new (S : Sta K ws H s) (h : H p = none) : Sta K ws (upd H p o) s :=
  ⟨S.nd, S.len, S.dis, fun a z => by
    obtain ⟨u, e⟩ := S.hid a z
    exact ⟨u, by rw [upd_ne (ne_of_none e h)]; exact e⟩, fun l a ds e1 e2 => by
    obtain ⟨xs, h1, h2⟩ := S.own l a ds e1 e2
    exact ⟨xs, by rw [upd_ne (ne_of_none h1 h)]; exact h1, h2.stp (S.stp_new h)⟩⟩
theorem Sta.at_new (S : Sta K ws H s) (h : H p = none) : mask ws (upd H p o) p = some o := by
  rw [mask_of (S.fresh h), upd_same]
/-- a new object that is owned -/
abbrev Ws.add (ws : Ws) (p : Addr) : Ws := ⟨ws.own ++ [p], ws.hid⟩
theorem Sta.stp_own (S : Sta K ws H s) (h : H p = none) : Stp ws H (ws.add p) (upd H p o) :=
  ⟨List.prefix_append _ _, fun _ z => z, fun a u e => by
    obtain ⟨n, e⟩ := mask_some e
    have hne := ne_of_none e h
    rw [mask_of (ws := ws.add p) ⟨fun z => (List.mem_append.mp z).elim n.1 fun z => hne (by simpa using z), n.2⟩, upd_ne hne]
    exact e, fun a z => upd_ne fun e => (S.fresh h).2 (e ▸ z)⟩
theorem nodup_snoc {α : Type} {l : List α} {a : α} (h : l.Nodup) (n : a ∉ l) : (l ++ [a]).Nodup := by
  rw [List.nodup_append]
  refine ⟨h, by simp, fun x hx y hy e => ?_⟩
  have : y = a := by simpa using hy
  subst this
  subst e
  exact n hx
theorem Sta.newOwn (S : Sta K ws H s) {ds : List D} {xs : List V} (h : H p = none) (r : Reps K ws (mask ws H) ds xs) : Sta K (ws.add p) (upd H p (.lst xs)) (s ++ [ds]) := by
  have t : Stp ws H (ws.add p) (upd H p (.lst xs)) := S.stp_own h
  refine ⟨nodup_snoc S.nd (S.fresh h).1, by rw [List.length_append, List.length_append, S.len] <;> rfl, fun a z q => ?_, fun a z => ?_, fun l a es e1 e2 => ?_⟩
  · rcases List.mem_append.mp q with q | q
    · exact S.dis a z q
    · have : a = p := by simpa using q
      exact (S.fresh h).2 (this ▸ z)
  · obtain ⟨u, e⟩ := S.hid a z
    exact ⟨u, by rw [upd_ne (ne_of_none e h)]; exact e⟩
  by_cases hl : l < ws.own.length
  · rw [List.getElem?_append_left hl] at e1
    rw [List.getElem?_append_left (by rw [← S.len]; exact hl)] at e2
    obtain ⟨ys, h1, h2⟩ := S.own l a es e1 e2
    exact ⟨ys, by rw [upd_ne (ne_of_none h1 h)]; exact h1, h2.stp t⟩
  · have hl' : l = ws.own.length := by
      have := (List.getElem?_eq_some_iff.mp e1).1
      rw [List.length_append] at this
      simp at this
      omega
    subst hl'
    rw [List.getElem?_append_right (Nat.le_refl _)] at e1
    rw [List.getElem?_append_right (by rw [S.len]; exact Nat.le_refl _)] at e2
    simp [S.len] at e1 e2
    subst e1 e2
    exact ⟨xs, upd_same, r.stp t⟩
/-- an owned object is written -/
theorem Sta.stp_put (S : Sta K ws H s) {l : Nat} {a : Addr} {o : HO} (e : ws.own[l]? = some a) : Stp ws H ws (upd H a o) :=
  ⟨List.prefix_refl _, fun _ z => z, fun b u h => by
    obtain ⟨n, h⟩ := mask_some h
    have hne : b ≠ a := fun z => n.1 (by rw [z]; exact List.mem_of_getElem? e)
    rw [mask_of n, upd_ne hne]
    exact h, fun b z => upd_ne fun q => S.dis b z (by rw [q]; exact List.mem_of_getElem? e)⟩
theorem Sta.put (S : Sta K ws H s) {l : Nat} {a : Addr} {ds : List D} {xs : List V} (e : ws.own[l]? = some a) (r : Reps K ws (mask ws H) ds xs) : Sta K ws (upd H a (.lst xs)) (s.set l ds) := by
  have t : Stp ws H ws (upd H a (.lst xs)) := S.stp_put e
  refine ⟨S.nd, by rw [List.length_set]; exact S.len, S.dis, fun b z => ?_, fun k b es e1 e2 => ?_⟩
  · rw [t.hk b z]
    exact S.hid b z
  by_cases hk : k = l
  · subst hk
    rw [e] at e1
    cases e1
    have hl : k < s.length := by rw [← S.len]; exact (List.getElem?_eq_some_iff.mp e).1
    rw [List.getElem?_set_self hl] at e2
    cases e2
    exact ⟨xs, upd_same, r.stp t⟩
  · rw [List.getElem?_set_ne (Ne.symm hk)] at e2
    obtain ⟨ys, h1, h2⟩ := S.own k b es e1 e2
    have hb : b ≠ a := fun z => by
      subst z
      exact hk (nd_ix S.nd e1 e)
    exact ⟨ys, by rw [upd_ne hb]; exact h1, h2.stp t⟩
end

/-- the names' values -/
structure EnvOk (K : PySem.W.Frag) (ws : Ws) (H : Hp) (σ : L2.St) (ρ : Rho) : Prop where
  len : σ.length = ρ.length
  at_ : ∀ (i : Nat) (d : D), ρ[i]? = some (some d) → ∃ v, σ[i]? = some (some v) ∧ Rep K ws (mask ws H) d v
theorem EnvOk.stp {K : PySem.W.Frag} {ws ws' : Ws} {H H' : Hp} {σ : L2.St} {ρ : Rho} (N : EnvOk K ws H σ ρ) (t : Stp ws H ws' H') : EnvOk K ws' H' σ ρ :=
  ⟨N.len, fun i d e => let ⟨v, h1, h2⟩ := N.at_ i d e; ⟨v, h1, h2.stp t⟩⟩
theorem EnvOk.set {K : PySem.W.Frag} {ws : Ws} {H : Hp} {σ : L2.St} {ρ : Rho} (N : EnvOk K ws H σ ρ) {i : Nat} {d : D} {v : V} (r : Rep K ws (mask ws H) d v) : EnvOk K ws H (σ.set i (some v)) (ρ.set i (some d)) := by
  refine ⟨by rw [List.length_set, List.length_set]; exact N.len, fun j e h => ?_⟩
  by_cases hj : i = j
  · subst hj
    have hi : i < ρ.length := by
      have := (List.getElem?_eq_some_iff.mp h).1
      rwa [List.length_set] at this
    rw [List.getElem?_set_self hi] at h
    cases h
    exact ⟨v, by rw [List.getElem?_set_self (by rw [N.len]; exact hi)], r⟩
  · rw [List.getElem?_set_ne hj] at h
    rw [List.getElem?_set_ne hj]
    exact N.at_ j e h
theorem EnvOk.clr {K : PySem.W.Frag} {ws : Ws} {H : Hp} {σ : L2.St} {ρ : Rho} (N : EnvOk K ws H σ ρ) {i : Nat} : EnvOk K ws H (σ.set i none) (ρ.set i none) := by
  refine ⟨by rw [List.length_set, List.length_set]; exact N.len, fun j e h => ?_⟩
  by_cases hj : i = j
  · subst hj
    have hi : i < ρ.length := by
      have := (List.getElem?_eq_some_iff.mp h).1
      rwa [List.length_set] at this
    rw [List.getElem?_set_self hi] at h
    cases h
  · rw [List.getElem?_set_ne hj] at h
    rw [List.getElem?_set_ne hj]
    exact N.at_ j e h
def wipeD (ρ : Rho) : List Nat → Rho
  | [] => ρ
  | v :: vs => (wipeD ρ vs).set v none
theorem EnvOk.wipe {K : PySem.W.Frag} {ws : Ws} {H : Hp} {σ : L2.St} {ρ : Rho} (N : EnvOk K ws H σ ρ) : ∀ vs : List Nat, EnvOk K ws H (L2.wipe σ vs) (wipeD ρ vs)
  | [] => N
  | _ :: vs => (EnvOk.wipe N vs).clr

/-! ### what is evaluated -/
abbrev M (α : Type) := Rho → Sto → Option (α × Sto)
def bnd {α β : Type} (a : M α) (k : α → M β) : M β := fun ρ s => match a ρ s with
  | some (x, s1) => k x ρ s1
  | none => none
def got {α : Type} (f : Sto → Option α) : M α := fun _ s => match f s with
  | some x => some (x, s)
  | none => none
theorem bnd_some {α β : Type} {a : M α} {k : α → M β} {ρ : Rho} {s : Sto} {r : β × Sto} (h : bnd a k ρ s = some r) : ∃ x s1, a ρ s = some (x, s1) ∧ k x ρ s1 = some r := by
  unfold bnd at h
  split at h
  · rename_i x s1 e
    exact ⟨x, s1, e, h⟩
  · cases h
theorem got_some {α : Type} {f : Sto → Option α} {ρ : Rho} {s s' : Sto} {x : α} (h : got f ρ s = some (x, s')) : f s = some x ∧ s' = s := by
  unfold got at h
  split at h
  · rename_i y e
    cases h
    exact ⟨e, rfl⟩
  · cases h

def EvS (K : PySem.W.Frag) (te : TE) (f : M D) : Prop := ∀ (ws : Ws) (H : Hp) (s : Sto) (σ : L2.St) (ρ : Rho) (d : D) (s' : Sto) (Q : VK), Sta K ws H s → EnvOk K ws H σ ρ → f ρ s = some (d, s') →
  (∀ v ws' H', Stp ws H ws' H' → Sta K ws' H' s' → Rep K ws' (mask ws' H') d v → Q v H') → te σ H Q
def EvT (K : PySem.W.Frag) (tt : TT) (f : M Bool) : Prop := ∀ (ws : Ws) (H : Hp) (s : Sto) (σ : L2.St) (ρ : Rho) (d : Bool) (s' : Sto) (Q : Bool → Hp → Prop), Sta K ws H s → EnvOk K ws H σ ρ → f ρ s = some (d, s') →
  (∀ ws' H', Stp ws H ws' H' → Sta K ws' H' s' → Q d H') → tt σ H Q
def EvA (K : PySem.W.Frag) (ta : TA) (f : M (List D)) : Prop := ∀ (ws : Ws) (H : Hp) (s : Sto) (σ : L2.St) (ρ : Rho) (d : List D) (s' : Sto) (Q : List V → Hp → Prop), Sta K ws H s → EnvOk K ws H σ ρ → f ρ s = some (d, s') →
  (∀ v ws' H', Stp ws H ws' H' → Sta K ws' H' s' → Reps K ws' (mask ws' H') d v → Q v H') → ta σ H Q
structure DE (X : Cx) (e : Expr) (f : M D) : Prop where
  ex : ∃ te, PE X e te ∧ EvS X.K te f
structure DT (X : Cx) (e : Expr) (f : M Bool) : Prop where
  ex : ∃ tt, PT X e tt ∧ EvT X.K tt f
structure DW (X : Cx) (e : Expr) (f : M Bool) : Prop where
  ex : ∃ tt, PW X e tt ∧ EvT X.K tt f
structure DA (X : Cx) (es : List Expr) (f : M (List D)) : Prop where
  ex : ∃ ta, PA X es ta ∧ EvA X.K ta f
theorem DW.t {X : Cx} {e : Expr} {f : M Bool} (h : DW X e f) : DT X e f := let ⟨t, a, b⟩ := h.ex; ⟨t, a.pt, b⟩

section
variable {X : Cx} {a b c e : Expr} {es : List Expr} {f g k : M D} {pos p : Pos}

/-! ### names, constants -/
def fVar (i : Nat) : M D := fun ρ s => match ρ[i]? with
  | some (some d) => some (d, s)
  | _ => none
def fC (d : D) : M D := fun _ s => some (d, s)
theorem de_var (i : Nat) {x : Str} (hN : X.N[i]? = some x := by rfl) (hv : Vis X.env.scope x := by first | exact Or.inl rfl | exact Or.inr (Or.inl rfl) | exact Or.inr (Or.inr rfl))
    (hd : (x == ("__debug__" : Str)) = false := by decide) (hcd : (x == ("__classdict__" : Str)) = false := by decide) : DE X (.Name x pos) (fVar i) :=
  ⟨_, pe_var hN hv hd hcd, fun ws H s σ ρ d s' Q S N h q => by
    unfold fVar at h
    split at h
    · rename_i d' e
      cases h
      obtain ⟨v, e1, r⟩ := N.at_ i _ e
      exact ⟨v, e1, q v ws H (Stp.refl _ _) S r⟩
    · cases h⟩
theorem ev_c {K : PySem.W.Frag} {v : V} {d : D} (h : ∀ ws H, Rep K ws H d v) : EvS K (tC v) (fC d) := fun ws H s σ ρ d' s' Q S N h' q => by
  cases h'
  exact q v ws H (Stp.refl _ _) S (h _ _)
theorem de_int {i : Int} {j} : DE X (.Constant (.int i) j pos) (fC (.int i)) := ⟨_, pe_int, ev_c fun _ _ => rfl⟩
theorem de_bl {i : Bool} {j} : DE X (.Constant (.bool i) j pos) (fC (.bl i)) := ⟨_, pe_bl, ev_c fun _ _ => rfl⟩
theorem de_non {j} : DE X (.Constant .none j pos) (fC .non) := ⟨_, pe_non, ev_c fun _ _ => rfl⟩
theorem de_str {x : Str} {j} : DE X (.Constant (.str x) j pos) (fC (.str x)) := ⟨_, pe_str, ev_c fun _ _ => rfl⟩
/-- a module's constant that is no object -/
theorem de_glob {x : Str} {v : V} {u : Value} {d : D} (hm : X.mg x = some u) (r : RelV v u) (h : ∀ ws H, Rep X.K ws H d v) (hg : Gl X x := by rfl) (hd : (x == ("__debug__" : Str)) = false := by decide) : DE X (.Name x pos) (fC d) := ⟨_, pe_glob hg hm r hd, ev_c h⟩

/-! ### operators by values -/
/-- r on the values of x and y gives that of z -/
def OpS (K : PySem.W.Frag) (r : R2) (g : Sto → D → D → Option D) : Prop := ∀ (ws : Ws) (H : Hp) (s : Sto) (x y z : D) (v u : V) (Q : VK), Sta K ws H s → Rep K ws (mask ws H) x v → Rep K ws (mask ws H) y u → g s x y = some z →
  (∀ w ws' H', Stp ws H ws' H' → Sta K ws' H' s → Rep K ws' (mask ws' H') z w → Q w H') → r v u H Q
def fOp (g : Sto → D → D → Option D) (fa fb : M D) : M D := bnd fa fun x => bnd fb fun y => got fun s => g s x y
theorem ev_op {K : PySem.W.Frag} {ta tb : TE} {fa fb : M D} {r : R2} {g : Sto → D → D → Option D} (ha : EvS K ta fa) (hb : EvS K tb fb) (ho : OpS K r g) : EvS K (tOp r ta tb) (fOp g fa fb) := fun ws H s σ ρ d s' Q S N h q => by
  obtain ⟨x, s1, h1, h⟩ := bnd_some h
  obtain ⟨y, s2, h2, h⟩ := bnd_some h
  obtain ⟨h3, rfl⟩ := got_some h
  refine ha ws H s σ ρ x s1 _ S N h1 fun v ws1 H1 t1 S1 r1 => ?_
  refine hb ws1 H1 s1 σ ρ y _ _ S1 (N.stp t1) h2 fun u ws2 H2 t2 S2 r2 => ?_
  exact ho ws2 H2 _ x y d v u Q S2 (r1.stp t2) r2 h3 fun w ws' H' t3 S3 r3 => q w ws' H' ((t1.trans t2).trans t3) S3 r3
theorem de_bin {op : Operator} {r : R2} {fa fb : M D} {gg : Sto → D → D → Option D} (hr : OpR X (binaryOp op) r) (ho : OpS X.K r gg) (ha : DE X a fa) (hb : DE X b fb) : DE X (.BinOp a op b pos) (fOp gg fa fb) :=
  let ⟨_, pa, ea⟩ := ha.ex
  let ⟨_, pb, eb⟩ := hb.ex
  ⟨_, pe_op hr pa pb, ev_op ea eb ho⟩
theorem de_cmp {op : CmpOp} {r : R2} {fa fb : M D} {gg : Sto → D → D → Option D} (hr : OpR X (compareOp op) r) (ho : OpS X.K r gg) (ha : DE X a fa) (hb : DE X b fb) (hm : behindInMarks op b = false) : DE X (.Compare a [op] [b] pos) (fOp gg fa fb) :=
  let ⟨_, pa, ea⟩ := ha.ex
  let ⟨_, pb, eb⟩ := hb.ex
  ⟨_, pe_cmpR hr pa pb hm, ev_op ea eb ho⟩
theorem OpS.or {K : PySem.W.Frag} {r r' : R2} {g g' : Sto → D → D → Option D} (h : OpS K r g) (h' : OpS K r' g') : OpS K (fun x y H Q => r x y H Q ∨ r' x y H Q) (fun s x y => (g s x y).or (g' s x y)) := fun ws H s x y z v u Q S r1 r2 e q => by
  cases e1 : g s x y with
  | some z' =>
    simp only [e1, Option.some_or] at e
    cases e
    exact .inl (h ws H s x y _ v u Q S r1 r2 e1 q)
  | none =>
    simp only [e1, Option.none_or] at e
    exact .inr (h' ws H s x y z v u Q S r1 r2 e q)
end
end VL
set_option Elab.async false
set_option maxRecDepth 100000
set_option maxHeartbeats 4000000
set_option linter.all false
set_option autoImplicit false
namespace VL
open PySem L2
noncomputable section

theorem lim_ex : ∃ n : Nat, n = 100000 := ⟨100000, rfl⟩
/-- the most items of a list (a name that nothing opens) -/
noncomputable def LIM : Nat := Classical.choose lim_ex
theorem LIM_eq : LIM = 100000 := Classical.choose_spec lim_ex
theorem le_LIM {n : Nat} (h : n ≤ 100000) : n ≤ LIM := by rw [LIM_eq]; exact h
@[simp] theorem lit_LIM (n : Nat) (h : n ≤ 100000) : (no_index (OfNat.ofNat n) : Nat) ≤ LIM := le_LIM h
/-- bounds, as names that nothing opens -/
theorem small_ex : ∃ f : Int → Bool, ∀ j, f j = true ↔ -(2 ^ 62) ≤ j ∧ j < 2 ^ 62 := ⟨fun j => decide (-(2 ^ 62) ≤ j ∧ j < 2 ^ 62), fun j => decide_eq_true_iff⟩
noncomputable def smallI : Int → Bool := Classical.choose small_ex
theorem smallI_iff (j : Int) : smallI j = true ↔ -(2 ^ 62) ≤ j ∧ j < 2 ^ 62 := Classical.choose_spec small_ex j
theorem smallI_of {j : Int} (h1 : -1000000 ≤ j) (h2 : j ≤ 1000000) : smallI j = true := (smallI_iff j).mpr ⟨by omega, by omega⟩
@[simp] theorem smallI_lit (n : Nat) (h : n ≤ 1000000) : smallI (no_index (OfNat.ofNat n) : Int) = true := smallI_of (j := (n : Int)) (by omega) (by omega)
theorem smallI_nat {n : Nat} (h : n ≤ LIM) : smallI (n : Int) = true := smallI_of (by omega) (by rw [LIM_eq] at h; omega)
theorem mulOk_ex : ∃ f : Int → Int → Bool, ∀ i j, f i j = true ↔ (-(2 ^ 64) < i ∧ i < 2 ^ 64) ∨ (-(2 ^ 64) < j ∧ j < 2 ^ 64) := ⟨fun i j => decide ((-(2 ^ 64) < i ∧ i < 2 ^ 64) ∨ (-(2 ^ 64) < j ∧ j < 2 ^ 64)), fun i j => decide_eq_true_iff⟩
noncomputable def mulOk : Int → Int → Bool := Classical.choose mulOk_ex
theorem mulOk_iff (i j : Int) : mulOk i j = true ↔ (-(2 ^ 64) < i ∧ i < 2 ^ 64) ∨ (-(2 ^ 64) < j ∧ j < 2 ^ 64) := Classical.choose_spec mulOk_ex i j
@[simp] theorem mulOk_litr (i : Int) (n : Nat) (h : n ≤ 1000000000000) : mulOk i (no_index (OfNat.ofNat n) : Int) = true := (mulOk_iff i (n : Int)).mpr (.inr ⟨by omega, by omega⟩)
@[simp] theorem mulOk_litl (i : Int) (n : Nat) (h : n ≤ 1000000000000) : mulOk (no_index (OfNat.ofNat n) : Int) i = true := (mulOk_iff (n : Int) i).mpr (.inl ⟨by omega, by omega⟩)
theorem shOk_ex : ∃ f : Int → Int → Bool, ∀ i j, f i j = true ↔ 0 ≤ j ∧ j ≤ 1000000 ∧ i.natAbs < 2 ^ 64 := ⟨fun i j => decide (0 ≤ j ∧ j ≤ 1000000 ∧ i.natAbs < 2 ^ 64), fun i j => decide_eq_true_iff⟩
noncomputable def shOk : Int → Int → Bool := Classical.choose shOk_ex
theorem shOk_iff (i j : Int) : shOk i j = true ↔ 0 ≤ j ∧ j ≤ 1000000 ∧ i.natAbs < 2 ^ 64 := Classical.choose_spec shOk_ex i j
theorem shOk_of {i j : Int} (h0 : 0 ≤ i) (h1 : i ≤ 1000000000000) (h2 : 0 ≤ j) (h3 : j ≤ 1000000) : shOk i j = true := (shOk_iff i j).mpr ⟨h2, h3, by omega⟩
@[simp] theorem shOk_lit (n m : Nat) (h : n ≤ 1000000000000) (h2 : m ≤ 1000000) : shOk (no_index (OfNat.ofNat n) : Int) (no_index (OfNat.ofNat m) : Int) = true := shOk_of (i := (n : Int)) (j := (m : Int)) (by omega) (by omega) (by omega) (by omega)
theorem dvOk_ex : ∃ f : Int → Bool, ∀ j, f j = true ↔ 0 < j ∧ j < 1073741824 := ⟨fun j => decide (0 < j ∧ j < 1073741824), fun j => decide_eq_true_iff⟩
noncomputable def dvOk : Int → Bool := Classical.choose dvOk_ex
theorem dvOk_iff (j : Int) : dvOk j = true ↔ 0 < j ∧ j < 1073741824 := Classical.choose_spec dvOk_ex j
@[simp] theorem dvOk_lit (n : Nat) (h : 0 < n) (h2 : n ≤ 1000000000) : dvOk (no_index (OfNat.ofNat n) : Int) = true := (dvOk_iff (n : Int)).mpr ⟨by omega, by omega⟩
theorem lim_sz {n : Nat} (h : n ≤ LIM) : n ≤ sizeLine := Nat.le_trans h (by rw [LIM_eq]; decide)
theorem lim_lt {n : Nat} (h : n < LIM) : n < sizeLine := Nat.lt_of_lt_of_le h (by rw [LIM_eq]; decide)

/-! ### items -/
def itL (s : Sto) : D → Option (List D)
  | .lst ds => some ds
  | .lck ds => some ds
  | .own l => s[l]?
  | _ => none
def itM (s : Sto) : D → Option (List D)
  | .lst ds => some ds
  | .own l => s[l]?
  | _ => none
section
variable {K : PySem.W.Frag} {ws : Ws} {H : Hp} {s : Sto} {d : D} {v : V} {ds : List D}
theorem itM_ok (S : Sta K ws H s) (r : Rep K ws (mask ws H) d v) (h : itM s d = some ds) : ∃ a xs, v = .ref a ∧ H a = some (.lst xs) ∧ Reps K ws (mask ws H) ds xs := by
  cases d with
  | lst es =>
    cases h
    obtain ⟨a, xs, e, h1, h2⟩ := r
    exact ⟨a, xs, e, (mask_some h1).2, h2⟩
  | own l =>
    obtain ⟨a, h1, e⟩ := r
    obtain ⟨xs, h2, h3⟩ := S.own l a ds h1 h
    exact ⟨a, xs, e, h2, h3⟩
  | _ => cases h
theorem itL_ok (S : Sta K ws H s) (r : Rep K ws (mask ws H) d v) (h : itL s d = some ds) : ∃ a xs, v = .ref a ∧ SqL K H a xs ∧ Reps K ws (mask ws H) ds xs := by
  cases d with
  | lst es =>
    cases h
    obtain ⟨a, xs, e, h1, h2⟩ := r
    exact ⟨a, xs, e, .of (mask_some h1).2, h2⟩
  | lck es =>
    cases h
    obtain ⟨a, xs, e, h1, h2⟩ := r
    exact ⟨a, xs, e, sqL_un h1, h2⟩
  | own l =>
    obtain ⟨a, h1, e⟩ := r
    obtain ⟨xs, h2, h3⟩ := S.own l a ds h1 h
    exact ⟨a, xs, e, .of h2, h3⟩
  | _ => cases h
end

/-! ### arithmetic -/
abbrev G2 := Sto → D → D → Option D
def i2 (g : Int → Int → Option D) : G2 := fun _ x y => match x, y with
  | .int i, .int j => g i j
  | _, _ => none
theorem i2_some {g : Int → Int → Option D} {s : Sto} {x y z : D} (h : i2 g s x y = some z) : ∃ i j, x = .int i ∧ y = .int j ∧ g i j = some z := by
  unfold i2 at h
  split at h
  · exact ⟨_, _, rfl, rfl, h⟩
  · cases h
theorem ops_I0 {K : PySem.W.Frag} {g : Int → Int → V} {G : Int → Int → D} (h : ∀ i j ws H, Rep K ws H (G i j) (g i j)) : OpS K (rI0 g) (i2 fun i j => some (G i j)) := fun ws H s x y z v u Q S r1 r2 e q => by
  obtain ⟨i, j, rfl, rfl, e⟩ := i2_some e
  cases e
  cases r1
  cases r2
  exact ⟨i, j, rfl, rfl, q _ ws H (Stp.refl _ _) S (h _ _ _ _)⟩
theorem ops_I {K : PySem.W.Frag} {C : Int → Int → Prop} {g : Int → Int → V} {G : Int → Int → Option D} (h : ∀ i j z, G i j = some z → C i j ∧ ∀ ws H, Rep K ws H z (g i j)) : OpS K (rI C g) (i2 G) := fun ws H s x y z v u Q S r1 r2 e q => by
  obtain ⟨i, j, rfl, rfl, e⟩ := i2_some e
  cases r1
  cases r2
  obtain ⟨hc, hr⟩ := h i j z e
  exact ⟨i, j, rfl, rfl, hc, q _ ws H (Stp.refl _ _) S (hr _ _)⟩
def subD : G2 := i2 fun i j => some (.int (i - j))
def andD : G2 := i2 fun i j => some (.int (Builtin.bitAnd i j))
def orD : G2 := i2 fun i j => some (.int (Builtin.bitOr i j))
def xorD : G2 := i2 fun i j => some (.int (Builtin.bitXor i j))
def ltD : G2 := i2 fun i j => some (.bl (decide (i < j)))
def leD : G2 := i2 fun i j => some (.bl (decide (i ≤ j)))
def gtD : G2 := i2 fun i j => some (.bl (decide (j < i)))
def geD : G2 := i2 fun i j => some (.bl (decide (j ≤ i)))
def mulI (i j : Int) : Option D := if mulOk i j = true then some (.int (i * j)) else none
def fdivI (i j : Int) : Option D := if dvOk j = true then some (.int (i / j)) else none
def modI (i j : Int) : Option D := if 0 < j then some (.int (i % j)) else none
def shlI (i j : Int) : Option D := if shOk i j = true then some (.int (i * 2 ^ j.toNat)) else none
def powI (i j : Int) : Option D := if shOk i j = true then some (.int (i ^ j.toNat)) else none
def shrI (i j : Int) : Option D := if 0 ≤ j then some (.int (i / 2 ^ j.toNat)) else none
section
variable {K : PySem.W.Frag}
theorem ops_sub : OpS K (rI0 fun i j => .int (i - j)) subD := ops_I0 fun _ _ _ _ => rfl
theorem ops_mulI : OpS K (rI CMul fun i j => .int (i * j)) (i2 mulI) := ops_I fun i j z h => by
  unfold mulI at h
  split at h
  · cases h; exact ⟨(mulOk_iff _ _).mp (by assumption), fun _ _ => rfl⟩
  · cases h
theorem ops_fdiv : OpS K (rI CDiv fun i j => .int (i / j)) (i2 fdivI) := ops_I fun i j z h => by
  unfold fdivI at h
  split at h
  · cases h; exact ⟨(dvOk_iff _).mp (by assumption), fun _ _ => rfl⟩
  · cases h
theorem ops_mod : OpS K (rI (fun _ j => 0 < j) fun i j => .int (i % j)) (i2 modI) := ops_I fun i j z h => by
  unfold modI at h
  split at h
  · cases h; exact ⟨by assumption, fun _ _ => rfl⟩
  · cases h
theorem ops_shl : OpS K (rI CPow fun i j => .int (i * 2 ^ j.toNat)) (i2 shlI) := ops_I fun i j z h => by
  unfold shlI at h
  split at h
  · cases h; exact ⟨(shOk_iff _ _).mp (by assumption), fun _ _ => rfl⟩
  · cases h
theorem ops_pow : OpS K (rI CPow fun i j => .int (i ^ j.toNat)) (i2 powI) := ops_I fun i j z h => by
  unfold powI at h
  split at h
  · cases h; exact ⟨(shOk_iff _ _).mp (by assumption), fun _ _ => rfl⟩
  · cases h
theorem ops_shr : OpS K (rI (fun _ j => 0 ≤ j) fun i j => .int (i / 2 ^ j.toNat)) (i2 shrI) := ops_I fun i j z h => by
  unfold shrI at h
  split at h
  · cases h; exact ⟨by assumption, fun _ _ => rfl⟩
  · cases h
theorem ops_and : OpS K (rI0 fun i j => .int (Builtin.bitAnd i j)) andD := ops_I0 fun _ _ _ _ => rfl
theorem ops_or : OpS K (rI0 fun i j => .int (Builtin.bitOr i j)) orD := ops_I0 fun _ _ _ _ => rfl
theorem ops_xor : OpS K (rI0 fun i j => .int (Builtin.bitXor i j)) xorD := ops_I0 fun _ _ _ _ => rfl
theorem ops_lt : OpS K (rI0 fun i j => .bl (decide (i < j))) ltD := ops_I0 fun _ _ _ _ => rfl
theorem ops_le : OpS K (rI0 fun i j => .bl (decide (i ≤ j))) leD := ops_I0 fun _ _ _ _ => rfl
theorem ops_gt : OpS K (rI0 fun i j => .bl (decide (j < i))) gtD := ops_I0 fun _ _ _ _ => rfl
theorem ops_ge : OpS K (rI0 fun i j => .bl (decide (j ≤ i))) geD := ops_I0 fun _ _ _ _ => rfl
end

/-! ### a + b, a * b of any kind -/
def addD (s : Sto) (x y : D) : Option D := match x, y with
  | .int i, .int j => some (.int (i + j))
  | .str a, .str b => if a.length + b.length ≤ LIM then some (.str (a ++ b)) else none
  | .tup a, .tup b => if a.length + b.length ≤ LIM then some (.tup (a ++ b)) else none
  | .lst a, .lst b => if a.length + b.length ≤ LIM then some (.lst (a ++ b)) else none
  | _, _ => none
def rAdd4 (K : PySem.W.Frag) : R2 := fun x y H Q => (∃ i j, x = .int i ∧ y = .int j ∧ Q (.int (i + j)) H) ∨ ((∃ i j, x = .str i ∧ y = .str j ∧ i.length + j.length ≤ sizeLine ∧ Q (.str (i ++ j)) H) ∨ (rCatA K x y H Q ∨ rCat x y H Q))
theorem op_add4 {X : Cx} : OpR X (binaryOp .Add) (rAdd4 X.K) := op_add.or (op_add_str.or (op_catA.or op_cat))
theorem ops_add {K : PySem.W.Frag} : OpS K (rAdd4 K) addD := fun ws H s x y z v u Q S r1 r2 e q => by
  unfold addD at e
  split at e
  · cases e
    cases r1
    cases r2
    exact .inl ⟨_, _, rfl, rfl, q _ ws H (Stp.refl _ _) S rfl⟩
  · split at e
    · cases e
      cases r1
      cases r2
      exact .inr (.inl ⟨_, _, rfl, rfl, lim_sz (by assumption), q _ ws H (Stp.refl _ _) S rfl⟩)
    · cases e
  · rename_i a b
    split at e
    · rename_i hl
      cases e
      obtain ⟨p1, xs, rfl, h1, k1⟩ := r1
      obtain ⟨p2, ys, rfl, h2, k2⟩ := r2
      refine .inr (.inr (.inl ⟨p1, p2, xs, ys, rfl, rfl, sqT_un h1, sqT_un h2, lim_sz (by rw [← k1.length, ← k2.length]; exact hl), fun e1 => ?_, fun _ e2 => ?_, fun _ _ p hp => ?_⟩))
      · subst e1
        have : a = [] := List.length_eq_zero_iff.mp k1.length
        subst this
        exact q _ ws H (Stp.refl _ _) S ⟨p2, ys, rfl, h2, k2⟩
      · subst e2
        have : b = [] := List.length_eq_zero_iff.mp k2.length
        subst this
        exact q _ ws H (Stp.refl _ _) S ⟨p1, xs, rfl, h1, by rw [List.append_nil]; exact k1⟩
      · have t : Stp ws H ws (upd H p (.tup (xs ++ ys))) := S.stp_new hp
        exact q _ ws _ t (S.new hp) ⟨p, _, rfl, .of (S.at_new hp), (k1.append k2).stp t⟩
    · cases e
  · rename_i a b
    split at e
    · rename_i hl
      cases e
      obtain ⟨p1, xs, rfl, h1, k1⟩ := r1
      obtain ⟨p2, ys, rfl, h2, k2⟩ := r2
      refine .inr (.inr (.inr ⟨p1, p2, xs, ys, rfl, rfl, (mask_some h1).2, (mask_some h2).2, lim_sz (by rw [← k1.length, ← k2.length]; exact hl), fun p hp => ?_⟩))
      have t : Stp ws H ws (upd H p (.lst (xs ++ ys))) := S.stp_new hp
      exact q _ ws _ t (S.new hp) ⟨p, _, rfl, S.at_new hp, (k1.append k2).stp t⟩
    · cases e
  · cases e
/-- += of ints and texts -/
def addI (s : Sto) (x y : D) : Option D := match x, y with
  | .int i, .int j => some (.int (i + j))
  | .str a, .str b => if a.length + b.length ≤ LIM then some (.str (a ++ b)) else none
  | _, _ => none
theorem iop_addI {X : Cx} : OpR X (inplaceOp .Add) (fun x y H Q => (∃ i j, x = .int i ∧ y = .int j ∧ Q (.int (i + j)) H) ∨ (∃ i j, x = .str i ∧ y = .str j ∧ i.length + j.length ≤ sizeLine ∧ Q (.str (i ++ j)) H)) := iop_add.or iop_add_str
theorem ops_addI {K : PySem.W.Frag} : OpS K (fun x y H Q => (∃ i j, x = .int i ∧ y = .int j ∧ Q (.int (i + j)) H) ∨ (∃ i j, x = .str i ∧ y = .str j ∧ i.length + j.length ≤ sizeLine ∧ Q (.str (i ++ j)) H)) addI := fun ws H s x y z v u Q S r1 r2 e q => by
  unfold addI at e
  split at e
  · cases e
    cases r1
    cases r2
    exact .inl ⟨_, _, rfl, rfl, q _ ws H (Stp.refl _ _) S rfl⟩
  · split at e
    · cases e
      cases r1
      cases r2
      exact .inr ⟨_, _, rfl, rfl, lim_sz (by assumption), q _ ws H (Stp.refl _ _) S rfl⟩
    · cases e
  · cases e
def mulD (s : Sto) (x y : D) : Option D := match x, y with
  | .int i, .int j => mulI i j
  | .lst a, .int k => if smallI k = true ∧ a.length * k.toNat ≤ LIM then some (.lst (List.replicate k.toNat a).flatten) else none
  | _, _ => none
theorem op_mul2 {X : Cx} : OpR X (binaryOp .Mult) (fun x y H Q => rI CMul (fun i j => .int (i * j)) x y H Q ∨ rRep x y H Q) := op_mul.or op_rep
theorem ops_mul {K : PySem.W.Frag} : OpS K (fun x y H Q => rI CMul (fun i j => .int (i * j)) x y H Q ∨ rRep x y H Q) mulD := fun ws H s x y z v u Q S r1 r2 e q => by
  unfold mulD at e
  split at e
  · exact .inl (ops_mulI (K := K) ws H s _ _ z v u Q S r1 r2 e q)
  · rename_i a k
    split at e
    · rename_i hl
      cases e
      obtain ⟨p1, xs, rfl, h1, k1⟩ := r1
      cases r2
      have hk := (smallI_iff k).mp hl.1
      refine .inr ⟨p1, k, xs, rfl, rfl, (mask_some h1).2, by omega, by omega, lim_sz (by rw [← k1.length]; exact hl.2), fun p hp => ?_⟩
      have t : Stp ws H ws (upd H p (.lst (List.replicate k.toNat xs).flatten)) := S.stp_new hp
      exact q _ ws _ t (S.new hp) ⟨p, _, rfl, S.at_new hp, (k1.replicate _).stp t⟩
    · cases e
  · cases e

/-! ### is None -/
def isNone : D → Bool
  | .non => true
  | _ => false
theorem isNone_ok {K : PySem.W.Frag} {ws : Ws} {H : Hp} {d : D} {v : V} (r : Rep K ws H d v) : decide (v = .non) = isNone d := by
  cases d with
  | non => cases r; rfl
  | bl _ => cases r; rfl
  | int _ => cases r; rfl
  | str _ => cases r; rfl
  | lst _ => obtain ⟨a, xs, rfl, _⟩ := r; rfl
  | tup _ => obtain ⟨a, xs, rfl, _⟩ := r; rfl
  | own _ => obtain ⟨a, _, rfl⟩ := r; rfl
  | lck _ => obtain ⟨a, xs, rfl, _⟩ := r; rfl
def isN (s : Sto) (x y : D) : Option D := match y with
  | .non => some (.bl (isNone x))
  | _ => none
def isNN (s : Sto) (x y : D) : Option D := match y with
  | .non => some (.bl (!isNone x))
  | _ => none
theorem ops_isN {K : PySem.W.Frag} : OpS K (fun x y H Q => y = .non ∧ Q (.bl (decide (x = .non))) H) isN := fun ws H s x y z v u Q S r1 r2 e q => by
  unfold isN at e
  split at e
  · cases e
    cases r2
    refine ⟨rfl, ?_⟩
    rw [isNone_ok r1]
    exact q _ ws H (Stp.refl _ _) S rfl
  · cases e
theorem ops_isNN {K : PySem.W.Frag} : OpS K (fun x y H Q => y = .non ∧ Q (.bl (!decide (x = .non))) H) isNN := fun ws H s x y z v u Q S r1 r2 e q => by
  unfold isNN at e
  split at e
  · cases e
    cases r2
    refine ⟨rfl, ?_⟩
    rw [isNone_ok r1]
    exact q _ ws H (Stp.refl _ _) S rfl
  · cases e

/-! ### == -/
mutual
def toPy : D → Option PyData
  | .non => some .none
  | .bl b => some (.bool b)
  | .int i => some (.int i)
  | .str x => some (.str x)
  | .lst ds => match toPys ds with
    | some es => some (.list es)
    | none => none
  | .lck ds => match toPys ds with
    | some es => some (.list es)
    | none => none
  | .tup ds => match toPys ds with
    | some es => some (.tuple es)
    | none => none
  | .own _ => none
def toPys : List D → Option (List PyData)
  | [] => some []
  | d :: ds => match toPy d, toPys ds with
    | some e, some es => some (e :: es)
    | _, _ => none
end
mutual
theorem toPy_ok {K : PySem.W.Frag} {ws : Ws} {H : Hp} : ∀ (d : D) (v : V) (p : PyData), Rep K ws (mask ws H) d v → toPy d = some p → Dp K H v p
  | .non, _, _, r, e => by cases r; cases e; exact .non
  | .bl _, _, _, r, e => by cases r; cases e; exact .bl _
  | .int _, _, _, r, e => by cases r; cases e; exact .int _
  | .str _, _, _, r, e => by cases r; cases e; exact .str _
  | .lst ds, _, p, r, e => by
    obtain ⟨a, xs, rfl, h, k⟩ := r
    unfold toPy at e
    split at e
    · rename_i es h2
      cases e
      exact .lst (.of (mask_some h).2) (toPys_ok ds xs _ k h2)
    · cases e
  | .lck ds, _, p, r, e => by
    obtain ⟨a, xs, rfl, h, k⟩ := r
    unfold toPy at e
    split at e
    · rename_i es h2
      cases e
      exact .lst (sqL_un h) (toPys_ok ds xs _ k h2)
    · cases e
  | .tup ds, _, p, r, e => by
    obtain ⟨a, xs, rfl, h, k⟩ := r
    unfold toPy at e
    split at e
    · rename_i es h2
      cases e
      exact .tup (sqT_un h) (toPys_ok ds xs _ k h2)
    · cases e
  | .own _, _, _, _, e => by cases e
theorem toPys_ok {K : PySem.W.Frag} {ws : Ws} {H : Hp} : ∀ (ds : List D) (vs : List V) (ps : List PyData), Reps K ws (mask ws H) ds vs → toPys ds = some ps → DpAll K H vs ps
  | [], _, _, r, e => by cases r; cases e; exact .nil
  | d :: ds, _, ps, r, e => by
    obtain ⟨v, w, rfl, r1, r2⟩ := r
    unfold toPys at e
    split at e
    · rename_i e1 e2 h1 h2
      cases e
      exact .cons (toPy_ok d v _ r1 h1) (toPys_ok ds w _ r2 h2)
    · cases e
end
/-- what an owned list holds, as a list -/
def dr (s : Sto) : D → D
  | .own l => match s[l]? with
    | some ds => .lst ds
    | none => .own l
  | d => d
theorem dr_ok {K : PySem.W.Frag} {ws : Ws} {H : Hp} {s : Sto} {d : D} {v : V} {p : PyData} (S : Sta K ws H s) (r : Rep K ws (mask ws H) d v) (e : toPy (dr s d) = some p) : Dp K H v p := by
  cases d with
  | own l =>
    unfold dr at e
    split at e
    · rename_i d l' e1
      cases e1
      obtain ⟨a, h1, rfl⟩ := r
      split at e
      · rename_i ds h2
        obtain ⟨xs, h3, h4⟩ := S.own l a ds h1 h2
        unfold toPy at e
        split at e
        · rename_i es h5
          cases e
          exact .lst (.of h3) (toPys_ok ds xs _ h4 h5)
        · cases e
      · cases e
    · rename_i h
      exact absurd rfl (h _)
  | _ => exact toPy_ok _ v p r e
def scD : D → D → Option Bool
  | .int i, .int j => some (decide (i = j))
  | .str i, .str j => some (decide (i = j))
  | .bl i, .bl j => some (decide (i = j))
  | .non, .non => some true
  | .int _, .str _ => some false
  | .str _, .int _ => some false
  | .non, .int _ => some false
  | .int _, .non => some false
  | .non, .str _ => some false
  | .str _, .non => some false
  | .non, .bl _ => some false
  | .bl _, .non => some false
  | .bl _, .str _ => some false
  | .str _, .bl _ => some false
  | _, _ => none
def eqB (s : Sto) (x y : D) : Option Bool := match scD x y with
  | some b => some b
  | none => match toPy (dr s x), toPy (dr s y) with
    | some d, some e => if SeqAt.shaped d = true ∧ SeqAt.shaped e = true then some (PyData.eqv d e) else none
    | _, _ => none
def eqD (s : Sto) (x y : D) : Option D := (eqB s x y).map .bl
def neD (s : Sto) (x y : D) : Option D := (eqB s x y).map fun b => .bl (!b)
theorem scD_ok {K : PySem.W.Frag} {ws : Ws} {H : Hp} {x y : D} {v u : V} {b : Bool} (r1 : Rep K ws H x v) (r2 : Rep K ws H y u) (e : scD x y = some b) : scal v u = true ∧ decide (v = u) = b := by
  unfold scD at e
  split at e <;> first
    | cases e; done
    | (cases r1; cases r2; cases e; first
        | exact ⟨rfl, rfl⟩
        | (refine ⟨rfl, ?_⟩; refine decide_eq_decide.mpr ⟨fun h => ?_, fun h => ?_⟩; (injection h); (rw [h])))
theorem ops_eq {X : Cx} : OpS X.K (fun x y H Q => rEq x y H Q ∨ rEqD X.K x y H Q) eqD := fun ws H s x y z v u Q S r1 r2 e q => by
  obtain ⟨b, e', rfl⟩ := Option.map_eq_some_iff.mp e
  clear e
  have e := e'
  unfold eqB at e
  split at e
  · rename_i b' h
    cases e
    obtain ⟨h1, h2⟩ := scD_ok r1 r2 h
    refine .inl ⟨h1, ?_⟩
    rw [h2]
    exact q _ ws H (Stp.refl _ _) S rfl
  · split at e
    · rename_i d1 d2 h1 h2
      split at e
      · rename_i hs
        cases e
        exact .inr ⟨d1, d2, dr_ok S r1 h1, dr_ok S r2 h2, hs.1, hs.2, q _ ws H (Stp.refl _ _) S rfl⟩
      · cases e
    · cases e
theorem ops_ne {X : Cx} : OpS X.K (fun x y H Q => rNe x y H Q ∨ rNeD X.K x y H Q) neD := fun ws H s x y z v u Q S r1 r2 e q => by
  obtain ⟨b, e', rfl⟩ := Option.map_eq_some_iff.mp e
  clear e
  have e := e'
  unfold eqB at e
  split at e
  · rename_i b' h
    cases e
    obtain ⟨h1, h2⟩ := scD_ok r1 r2 h
    refine .inl ⟨h1, ?_⟩
    rw [h2]
    exact q _ ws H (Stp.refl _ _) S rfl
  · split at e
    · rename_i d1 d2 h1 h2
      split at e
      · rename_i hs
        cases e
        exact .inr ⟨d1, d2, dr_ok S r1 h1, dr_ok S r2 h2, hs.1, hs.2, q _ ws H (Stp.refl _ _) S rfl⟩
      · cases e
    · cases e
/-- a place for calls -/
def Rm (X : Cx) : Prop := X.A.units + 64 < cLine
theorem op_eqU {X : Cx} (hu : Rm X) : OpR X (compareOp .Eq) (fun x y H Q => rEq x y H Q ∨ rEqD X.K x y H Q) := op_eq.or (op_eqD hu)
theorem op_neU {X : Cx} (hu : Rm X) : OpR X (compareOp .NotEq) (fun x y H Q => rNe x y H Q ∨ rNeD X.K x y H Q) := op_ne.or (op_neD hu)

/-! ### xs[i] -/
def ixD (s : Sto) (x y : D) : Option D := match y with
  | .int i => match x with
    | .tup ds => atI ds i
    | .str z => if z.length ≤ LIM then (atI z.cps.toList i).map fun c => .str ⟨#[c]⟩ else none
    | _ => (itL s x).bind fun ds => atI ds i
  | _ => none
theorem atI_reps {K : PySem.W.Frag} {ws : Ws} {H : Hp} {ds : List D} {vs : List V} {i : Int} {d : D} (r : Reps K ws H ds vs) (h : atI ds i = some d) : ∃ v, atI vs i = some v ∧ Rep K ws H d v := by
  unfold atI at h ⊢
  rw [r.length] at h
  cases e : ixN vs.length i with
  | none => rw [e] at h; cases h
  | some j => rw [e] at h; exact r.get h
theorem ops_ix {X : Cx} : OpS X.K (rIx X.K) ixD := fun ws H s x y z v u Q S r1 r2 e q => by
  unfold ixD at e
  split at e
  · rename_i i
    cases r2
    split at e
    · rename_i ds
      obtain ⟨a, xs, rfl, h1, k1⟩ := r1
      obtain ⟨w, e1, rw'⟩ := atI_reps k1 e
      exact .inr (.inl ⟨a, xs, i, w, rfl, rfl, sqT_un h1, e1, q _ ws H (Stp.refl _ _) S rw'⟩)
    · split at e
      · rename_i hl
        obtain ⟨c, e1, rfl⟩ := Option.map_eq_some_iff.mp e
        cases r1
        exact .inr (.inr ⟨_, i, c, rfl, rfl, lim_sz hl, e1, q _ ws H (Stp.refl _ _) S rfl⟩)
      · cases e
    · cases h : itL s x with
      | none => rw [h] at e; cases e
      | some ds =>
        rw [h] at e
        obtain ⟨a, xs, rfl, h1, k1⟩ := itL_ok S r1 h
        obtain ⟨w, e1, rw'⟩ := atI_reps k1 e
        exact .inl ⟨a, xs, i, w, rfl, rfl, h1, e1, q _ ws H (Stp.refl _ _) S rw'⟩
  · cases e
end
end VL
set_option Elab.async false
set_option maxRecDepth 100000
set_option maxHeartbeats 4000000
set_option linter.all false
set_option autoImplicit false
namespace VL
open PySem L2
noncomputable section

/-! ### truth -/
def truD (s : Sto) : D → Option Bool
  | .non => some false
  | .bl b => some b
  | .int i => some (i != 0)
  | .str y => if y.length ≤ LIM then some ((y.length : Int) != 0) else none
  | .lst ds => some (!ds.isEmpty)
  | .lck ds => some (!ds.isEmpty)
  | .tup ds => some (!ds.isEmpty)
  | .own l => (s[l]?).map fun ds => !ds.isEmpty
theorem reps_empty {K : PySem.W.Frag} {ws : Ws} {H : Hp} {ds : List D} {xs : List V} (r : Reps K ws H ds xs) : ds.isEmpty = xs.isEmpty := by
  have := r.length
  cases ds with
  | nil => cases xs with
    | nil => rfl
    | cons _ _ => cases this
  | cons _ _ => cases xs with
    | nil => cases this
    | cons _ _ => rfl
theorem truD_ok {K : PySem.W.Frag} {ws : Ws} {H : Hp} {s : Sto} {d : D} {v : V} {b : Bool} (S : Sta K ws H s) (r : Rep K ws (mask ws H) d v) (h : truD s d = some b) : TruV K v H b := by
  cases d with
  | non => cases r; cases h; rfl
  | bl x => cases r; cases h; rfl
  | int i => cases r; cases h; rfl
  | str y =>
    cases r
    have h : (if y.length ≤ LIM then some ((y.length : Int) != 0) else none) = some b := h
    split at h
    · rename_i hl
      cases h
      exact ⟨lim_sz hl, rfl⟩
    · cases h
  | lst ds =>
    cases h
    obtain ⟨a, xs, rfl, h1, h2⟩ := r
    exact .inl ⟨xs, .of (mask_some h1).2, by rw [reps_empty h2]⟩
  | lck ds =>
    cases h
    obtain ⟨a, xs, rfl, h1, h2⟩ := r
    exact .inl ⟨xs, sqL_un h1, by rw [reps_empty h2]⟩
  | tup ds =>
    cases h
    obtain ⟨a, xs, rfl, h1, h2⟩ := r
    exact .inr (.inl ⟨xs, sqT_un h1, by rw [reps_empty h2]⟩)
  | own l =>
    obtain ⟨a, h1, rfl⟩ := r
    obtain ⟨ds, h2, rfl⟩ := Option.map_eq_some_iff.mp h
    obtain ⟨xs, h3, h4⟩ := S.own l a ds h1 h2
    exact .inl ⟨xs, .of h3, by rw [reps_empty h4]⟩
def ret {α : Type} (x : α) : M α := fun _ s => some (x, s)
def fTru (f : M D) : M Bool := bnd f fun x => got fun s => truD s x
def fBl (f : M D) : M Bool := bnd f fun x => got fun _ => match x with
  | .bl b => some b
  | _ => none

section
variable {X : Cx} {a b c e : Expr} {es : List Expr} {f g k : M D} {t u : M Bool} {pos p : Pos} {rest : List Expr}
theorem dt_val (h : DE X e f) (he : ∀ whole, isTrue e X.env whole = (do let v ← whole; standAt e.pos; holding [v] (truthy v)) := by intro _; rfl) : DT X e (fTru f) :=
  let ⟨_, pa, ea⟩ := h.ex
  ⟨_, pt_truth pa he, fun ws H s σ ρ d s' Q S N h q => by
    obtain ⟨x, s1, h1, h⟩ := bnd_some h
    obtain ⟨h2, rfl⟩ := got_some h
    exact ea ws H s σ ρ x _ _ S N h1 fun v ws' H' t1 S1 r1 => ⟨d, truD_ok S1 r1 h2, q ws' H' t1 S1⟩⟩
theorem ev_test {te : TE} {f : M D} {K : PySem.W.Frag} (ea : EvS K te f) : EvT K (tTest te) (fBl f) := fun ws H s σ ρ d s' Q S N h q => by
  obtain ⟨x, s1, h1, h⟩ := bnd_some h
  obtain ⟨h2, rfl⟩ := got_some h
  split at h2
  · cases h2
    refine ea ws H s σ ρ _ _ _ S N h1 fun v ws' H' t1 S1 r1 => ?_
    cases r1
    exact ⟨d, rfl, q ws' H' t1 S1⟩
  · cases h2
theorem dt_cmp {op : CmpOp} {r : R2} {fa fb : M D} {gg : G2} (hr : OpR X (compareOp op) r) (ho : OpS X.K r gg) (ha : DE X a fa) (hb : DE X b fb) (hm : behindInMarks op b = false) : DT X (.Compare a [op] [b] pos) (fBl (fOp gg fa fb)) :=
  let ⟨_, pa, ea⟩ := ha.ex
  let ⟨_, pb, eb⟩ := hb.ex
  ⟨_, pt_cmpR hr pa pb hm, ev_test (ev_op ea eb ho)⟩
/-- a op1 b op2 c -/
def fChain (g g' : G2) (fa fb fc : M D) : M D := bnd fa fun x => bnd fb fun y => bnd (got fun s => g s x y) fun z => match z with
  | .bl true => bnd fc fun w => got fun s => g' s y w
  | .bl false => ret (.bl false)
  | _ => got fun _ => none
theorem ev_chain {K : PySem.W.Frag} {r r' : R2} {ta tb tc : TE} {fa fb fc : M D} {gg gg' : G2} (ho : OpS K r gg) (ho' : OpS K r' gg') (ha : EvS K ta fa) (hb : EvS K tb fb) (hc : EvS K tc fc) : EvS K (tChain r r' ta tb tc) (fChain gg gg' fa fb fc) := fun ws H s σ ρ d s' Q S N h q => by
  obtain ⟨x, s1, h1, h'⟩ := bnd_some h
  obtain ⟨y, s2, h2, h''⟩ := bnd_some h'
  obtain ⟨z, s3, h3', hz⟩ := bnd_some h''
  obtain ⟨h3, rfl⟩ := got_some h3'
  refine ha ws H s σ ρ x s1 _ S N h1 fun v ws1 H1 t1 S1 r1 => ?_
  refine hb ws1 H1 s1 σ ρ y _ _ S1 (N.stp t1) h2 fun u ws2 H2 t2 S2 r2 => ?_
  refine ho ws2 H2 _ x y z v u _ S2 (r1.stp t2) r2 h3 fun w ws3 H3 t3 S3 r3 => ?_
  split at hz
  · obtain ⟨w2, s4, h4, h6⟩ := bnd_some hz
    obtain ⟨h5, rfl⟩ := got_some h6
    cases r3
    refine ⟨true, rfl, ?_⟩
    rw [if_pos rfl]
    refine hc ws3 H3 _ σ ρ w2 _ _ S3 (((N.stp t1).stp t2).stp t3) h4 fun v4 ws4 H4 t4 S4 r4 => ?_
    exact ho' ws4 H4 _ y w2 d u v4 Q S4 ((r2.stp t3).stp t4) r4 h5 fun v5 ws5 H5 t5 S5 r5 => q v5 ws5 H5 ((((t1.trans t2).trans t3).trans t4).trans t5) S5 r5
  · cases hz
    cases r3
    refine ⟨false, rfl, ?_⟩
    rw [if_neg Bool.false_ne_true]
    exact q _ ws3 H3 ((t1.trans t2).trans t3) S3 rfl
  · cases hz
theorem de_chain {op op' : CmpOp} {r r' : R2} {fa fb fc : M D} {gg gg' : G2} (hr : OpR X (compareOp op) r) (ho : OpS X.K r gg) (hr' : OpR X (compareOp op') r') (ho' : OpS X.K r' gg') (ha : DE X a fa) (hb : DE X b fb) (hc : DE X c fc)
    (hm : lastMarks [op, op'] [b, c] = false := by with_unfolding_all rfl) : DE X (.Compare a [op, op'] [b, c] pos) (fChain gg gg' fa fb fc) :=
  let ⟨_, pa, ea⟩ := ha.ex
  let ⟨_, pb, eb⟩ := hb.ex
  let ⟨_, pc, ec⟩ := hc.ex
  ⟨_, pe_chain hr hr' pa pb pc hm, ev_chain ho ho' ea eb ec⟩
theorem dt_chain {op op' : CmpOp} {r r' : R2} {fa fb fc : M D} {gg gg' : G2} (hr : OpR X (compareOp op) r) (ho : OpS X.K r gg) (hr' : OpR X (compareOp op') r') (ho' : OpS X.K r' gg') (ha : DE X a fa) (hb : DE X b fb) (hc : DE X c fc)
    (hm : lastMarks [op, op'] [b, c] = false := by with_unfolding_all rfl) : DT X (.Compare a [op, op'] [b, c] pos) (fBl (fChain gg gg' fa fb fc)) :=
  let ⟨_, pa, ea⟩ := ha.ex
  let ⟨_, pb, eb⟩ := hb.ex
  let ⟨_, pc, ec⟩ := hc.ex
  ⟨_, pt_chain hr hr' pa pb pc hm, ev_test (ev_chain ho ho' ea eb ec)⟩

/-! ### and, or, not as tests -/
def fAndT (t u : M Bool) : M Bool := bnd t fun x => if x = true then u else ret false
def fOrT (t u : M Bool) : M Bool := bnd t fun x => if x = true then ret true else u
def fNotT (t : M Bool) : M Bool := bnd t fun x => ret (!x)
theorem dw_and1 (h : DT X a t) : DW X (.BoolOp .And [a] pos) t := let ⟨_, pa, ea⟩ := h.ex; ⟨_, pw_and1 pa, ea⟩
theorem dw_or1 (h : DT X a t) : DW X (.BoolOp .Or [a] pos) t := let ⟨_, pa, ea⟩ := h.ex; ⟨_, pw_or1 pa, ea⟩
theorem dw_and (ha : DT X a t) (hb : DW X (.BoolOp .And (b :: rest) pos) u) : DW X (.BoolOp .And (a :: b :: rest) pos) (fAndT t u) :=
  let ⟨_, pa, ea⟩ := ha.ex
  let ⟨_, pb, eb⟩ := hb.ex
  ⟨_, pw_and pa pb, fun ws H s σ ρ d s' Q S N h q => by
    obtain ⟨x, s1, h1, h⟩ := bnd_some h
    refine ea ws H s σ ρ x s1 _ S N h1 fun ws1 H1 t1 S1 => ?_
    split at h
    · rename_i hx
      rw [if_pos hx]
      exact eb ws1 H1 s1 σ ρ d s' Q S1 (N.stp t1) h fun ws2 H2 t2 S2 => q ws2 H2 (t1.trans t2) S2
    · rename_i hx
      rw [if_neg hx]
      cases h
      exact q ws1 H1 t1 S1⟩
theorem dw_or (ha : DT X a t) (hb : DW X (.BoolOp .Or (b :: rest) pos) u) : DW X (.BoolOp .Or (a :: b :: rest) pos) (fOrT t u) :=
  let ⟨_, pa, ea⟩ := ha.ex
  let ⟨_, pb, eb⟩ := hb.ex
  ⟨_, pw_or pa pb, fun ws H s σ ρ d s' Q S N h q => by
    obtain ⟨x, s1, h1, h⟩ := bnd_some h
    refine ea ws H s σ ρ x s1 _ S N h1 fun ws1 H1 t1 S1 => ?_
    split at h
    · rename_i hx
      rw [if_pos hx]
      cases h
      exact q ws1 H1 t1 S1
    · rename_i hx
      rw [if_neg hx]
      exact eb ws1 H1 s1 σ ρ d s' Q S1 (N.stp t1) h fun ws2 H2 t2 S2 => q ws2 H2 (t1.trans t2) S2⟩
theorem dt_not (ha : DT X a t) : DT X (.UnaryOp .Not a pos) (fNotT t) :=
  let ⟨_, pa, ea⟩ := ha.ex
  ⟨_, pt_not pa, fun ws H s σ ρ d s' Q S N h q => by
    obtain ⟨x, s1, h1, h⟩ := bnd_some h
    cases h
    exact ea ws H s σ ρ x _ _ S N h1 fun ws1 H1 t1 S1 => q ws1 H1 t1 S1⟩

/-! ### and, or, not as values -/
def fAnd (f g : M D) : M D := bnd f fun x => bnd (got fun s => truD s x) fun b => if b = true then g else ret x
def fOr (f g : M D) : M D := bnd f fun x => bnd (got fun s => truD s x) fun b => if b = true then ret x else g
def fNot (f : M D) : M D := bnd f fun x => got fun s => (truD s x).map fun b => .bl (!b)
theorem de_one {op} (h : DE X a f) : DE X (.BoolOp op [a] pos) f := let ⟨_, pa, ea⟩ := h.ex; ⟨_, pe_one pa, ea⟩
theorem de_and (ha : DE X a f) (hb : DE X (.BoolOp .And (b :: rest) pos) g) : DE X (.BoolOp .And (a :: b :: rest) pos) (fAnd f g) :=
  let ⟨_, pa, ea⟩ := ha.ex
  let ⟨_, pb, eb⟩ := hb.ex
  ⟨_, pe_andT pa pb, fun ws H s σ ρ d s' Q S N h q => by
    obtain ⟨x, s1, h1, h'⟩ := bnd_some h
    obtain ⟨y, s2, h2', hz⟩ := bnd_some h'
    obtain ⟨h2, rfl⟩ := got_some h2'
    refine ea ws H s σ ρ x _ _ S N h1 fun v ws1 H1 t1 S1 r1 => ⟨y, truD_ok S1 r1 h2, ?_⟩
    split at hz
    · rename_i hx
      rw [if_pos hx]
      exact eb ws1 H1 _ σ ρ d s' Q S1 (N.stp t1) hz fun w ws2 H2 t2 S2 r2 => q w ws2 H2 (t1.trans t2) S2 r2
    · rename_i hx
      rw [if_neg hx]
      cases hz
      exact q v ws1 H1 t1 S1 r1⟩
theorem de_or (ha : DE X a f) (hb : DE X (.BoolOp .Or (b :: rest) pos) g) : DE X (.BoolOp .Or (a :: b :: rest) pos) (fOr f g) :=
  let ⟨_, pa, ea⟩ := ha.ex
  let ⟨_, pb, eb⟩ := hb.ex
  ⟨_, pe_orT pa pb, fun ws H s σ ρ d s' Q S N h q => by
    obtain ⟨x, s1, h1, h'⟩ := bnd_some h
    obtain ⟨y, s2, h2', hz⟩ := bnd_some h'
    obtain ⟨h2, rfl⟩ := got_some h2'
    refine ea ws H s σ ρ x _ _ S N h1 fun v ws1 H1 t1 S1 r1 => ⟨y, truD_ok S1 r1 h2, ?_⟩
    split at hz
    · rename_i hx
      rw [if_pos hx]
      cases hz
      exact q v ws1 H1 t1 S1 r1
    · rename_i hx
      rw [if_neg hx]
      exact eb ws1 H1 _ σ ρ d s' Q S1 (N.stp t1) hz fun w ws2 H2 t2 S2 r2 => q w ws2 H2 (t1.trans t2) S2 r2⟩
theorem de_not (ha : DE X a f) : DE X (.UnaryOp .Not a pos) (fNot f) :=
  let ⟨_, pa, ea⟩ := ha.ex
  ⟨_, pe_notT pa, fun ws H s σ ρ d s' Q S N h q => by
    obtain ⟨x, s1, h1, h⟩ := bnd_some h
    obtain ⟨h2, rfl⟩ := got_some h
    obtain ⟨y, h3, rfl⟩ := Option.map_eq_some_iff.mp h2
    exact ea ws H s σ ρ x _ _ S N h1 fun v ws1 H1 t1 S1 r1 => ⟨y, truD_ok S1 r1 h3, q _ ws1 H1 t1 S1 rfl⟩⟩
def fIf (t : M Bool) (f g : M D) : M D := bnd t fun b => if b = true then f else g
theorem de_if (hc : DT X c t) (ha : DE X a f) (hb : DE X b g) : DE X (.IfExp c a b pos) (fIf t f g) :=
  let ⟨_, pc, ec⟩ := hc.ex
  let ⟨_, pa, ea⟩ := ha.ex
  let ⟨_, pb, eb⟩ := hb.ex
  ⟨_, pe_ifExp pc pa pb, fun ws H s σ ρ d s' Q S N h q => by
    obtain ⟨x, s1, h1, h⟩ := bnd_some h
    refine ec ws H s σ ρ x s1 _ S N h1 fun ws1 H1 t1 S1 => ?_
    split at h
    · rename_i hx
      rw [if_pos hx]
      exact ea ws1 H1 s1 σ ρ d s' Q S1 (N.stp t1) h fun w ws2 H2 t2 S2 r2 => q w ws2 H2 (t1.trans t2) S2 r2
    · rename_i hx
      rw [if_neg hx]
      exact eb ws1 H1 s1 σ ρ d s' Q S1 (N.stp t1) h fun w ws2 H2 t2 S2 r2 => q w ws2 H2 (t1.trans t2) S2 r2⟩
/-- -a -/
def negD : D → Option D
  | .int i => some (.int (-i))
  | _ => none
def fNeg (f : M D) : M D := bnd f fun x => got fun _ => negD x
theorem de_neg (ha : DE X a f) : DE X (.UnaryOp .USub a pos) (fNeg f) :=
  let ⟨_, pa, ea⟩ := ha.ex
  ⟨_, pe_un un_neg pa, fun ws H s σ ρ d s' Q S N h q => by
    obtain ⟨x, s1, h1, h⟩ := bnd_some h
    obtain ⟨h2, rfl⟩ := got_some h
    unfold negD at h2
    split at h2
    · cases h2
      refine ea ws H s σ ρ _ _ _ S N h1 fun v ws1 H1 t1 S1 r1 => ?_
      cases r1
      exact ⟨_, rfl, q _ ws1 H1 t1 S1 rfl⟩
    · cases h2⟩

/-! ### arguments, displays -/
def fNil : M (List D) := ret []
def fCons (f : M D) (r : M (List D)) : M (List D) := bnd f fun x => bnd r fun xs => ret (x :: xs)
theorem da_nil : DA X [] fNil := ⟨_, pa_nil, fun ws H s σ ρ d s' Q S N h q => by
  cases h
  exact q _ ws H (Stp.refl _ _) S rfl⟩
theorem da_cons {r : M (List D)} (ha : DE X e f) (hr : DA X es r) (hs : starEach (e :: es) X.env = (false, eval e X.env) :: starEach es X.env := by rfl) : DA X (e :: es) (fCons f r) :=
  let ⟨_, pa, ea⟩ := ha.ex
  let ⟨_, pr, er⟩ := hr.ex
  ⟨_, pa_cons pa pr hs, fun ws H s σ ρ d s' Q S N h q => by
    obtain ⟨x, s1, h1, h⟩ := bnd_some h
    obtain ⟨xs, s2, h2, h⟩ := bnd_some h
    cases h
    refine ea ws H s σ ρ x _ _ S N h1 fun v ws1 H1 t1 S1 r1 => ?_
    exact er ws1 H1 s1 σ ρ xs _ _ S1 (N.stp t1) h2 fun vs ws2 H2 t2 S2 r2 => q _ ws2 H2 (t1.trans t2) S2 ⟨v, vs, rfl, r1.stp t2, r2⟩⟩
def fTup (r : M (List D)) : M D := bnd r fun xs => got fun _ => if xs.length ≤ LIM then some (.tup xs) else none
def fLst (r : M (List D)) : M D := bnd r fun xs => got fun _ => if xs.length ≤ LIM then some (.lst xs) else none
theorem de_tup {r : M (List D)} {x1} (hr : DA X es r) : DE X (.Tuple es x1 pos) (fTup r) :=
  let ⟨_, pr, er⟩ := hr.ex
  ⟨_, pe_tup pr, fun ws H s σ ρ d s' Q S N h q => by
    obtain ⟨xs, s1, h1, h⟩ := bnd_some h
    obtain ⟨h2, rfl⟩ := got_some h
    split at h2
    · rename_i hl
      cases h2
      refine er ws H s σ ρ xs _ _ S N h1 fun vs ws1 H1 t1 S1 r1 => ⟨lim_sz (by rw [← r1.length]; exact hl), fun p hp => ?_⟩
      have t2 : Stp ws1 H1 ws1 (upd H1 p (.tup vs)) := S1.stp_new hp
      exact q _ ws1 _ (t1.trans t2) (S1.new hp) ⟨p, vs, rfl, .of (S1.at_new hp), r1.stp t2⟩
    · cases h2⟩
theorem de_lst {r : M (List D)} (hr : DA X es r) : DE X (.List es pos) (fLst r) :=
  let ⟨_, pr, er⟩ := hr.ex
  ⟨_, pe_lst pr, fun ws H s σ ρ d s' Q S N h q => by
    obtain ⟨xs, s1, h1, h⟩ := bnd_some h
    obtain ⟨h2, rfl⟩ := got_some h
    split at h2
    · rename_i hl
      cases h2
      refine er ws H s σ ρ xs _ _ S N h1 fun vs ws1 H1 t1 S1 r1 => ⟨lim_sz (by rw [← r1.length]; exact hl), fun p hp => ?_⟩
      have t2 : Stp ws1 H1 ws1 (upd H1 p (.lst vs)) := S1.stp_new hp
      exact q _ ws1 _ (t1.trans t2) (S1.new hp) ⟨p, vs, rfl, S1.at_new hp, r1.stp t2⟩
    · cases h2⟩
/-- a list that is owned from now on -/
def fOwn (r : M (List D)) : M D := bnd r fun xs => fun _ s => if xs.length ≤ LIM then some (.own s.length, s ++ [xs]) else none
theorem de_own {r : M (List D)} (hr : DA X es r) : DE X (.List es pos) (fOwn r) :=
  let ⟨_, pr, er⟩ := hr.ex
  ⟨_, pe_lst pr, fun ws H s σ ρ d s' Q S N h q => by
    obtain ⟨xs, s1, h1, h⟩ := bnd_some h
    split at h
    · rename_i hl
      cases h
      refine er ws H s σ ρ xs _ _ S N h1 fun vs ws1 H1 t1 S1 r1 => ⟨lim_sz (by rw [← r1.length]; exact hl), fun p hp => ?_⟩
      have t2 : Stp ws1 H1 (ws1.add p) (upd H1 p (.lst vs)) := S1.stp_own hp
      refine q _ (ws1.add p) _ (t1.trans t2) (S1.newOwn hp r1) ⟨p, ?_, rfl⟩
      rw [List.getElem?_append_right (by rw [S1.len]; exact Nat.le_refl _), S1.len, Nat.sub_self]
      rfl
    · cases h⟩

/-! ### xs[i], xs[a:b] -/
theorem de_ix {fa fb : M D} (ha : DE X a fa) (hb : DE X b fb) (hs : PlainIx b := by intro _ _; rfl) : DE X (.Subscript a b pos) (fOp ixD fa fb) :=
  let ⟨_, pa, ea⟩ := ha.ex
  let ⟨_, pb, eb⟩ := hb.ex
  ⟨_, pe_ix ix_seq pa pb hs, ev_op ea eb (ops_ix (X := X))⟩
def cutD (ds : List D) (lo hi : Option Int) : List D := (ds.drop (HT.sIx ds.length 0 lo)).take (HT.sIx ds.length ds.length hi - HT.sIx ds.length 0 lo)
theorem reps_cut {K : PySem.W.Frag} {ws : Ws} {H : Hp} {ds : List D} {xs : List V} (r : Reps K ws H ds xs) (lo hi : Option Int) : Reps K ws H (cutD ds lo hi) (cutV xs lo hi) := by
  unfold cutD cutV
  rw [r.length]
  exact (r.drop _).take _
def slD (s : Sto) (x : D) (lo hi : Option Int) : Option D := match x with
  | .tup ds => some (.tup (cutD ds lo hi))
  | .str z => if z.length ≤ LIM then some (.str (cutS z lo hi)) else none
  | _ => (itL s x).map fun ds => .lst (cutD ds lo hi)
def EvO (K : PySem.W.Frag) (ta : TO) (f : M (Option Int)) : Prop := ∀ (ws : Ws) (H : Hp) (s : Sto) (σ : L2.St) (ρ : Rho) (d : Option Int) (s' : Sto) (Q : Option Int → Hp → Prop), Sta K ws H s → EnvOk K ws H σ ρ → f ρ s = some (d, s') →
  (∀ ws' H', Stp ws H ws' H' → Sta K ws' H' s' → Q d H') → ta σ H Q
structure DO' (X : Cx) (e : Option Expr) (f : M (Option Int)) : Prop where
  ex : ∃ ta, PO X e ta ∧ EvO X.K ta f
def fPart (f : M D) : M (Option Int) := bnd f fun x => got fun _ => match x with
  | .int i => some (some i)
  | _ => none
theorem do_none : DO' X none (ret none) := ⟨_, po_none, fun ws H s σ ρ d s' Q S N h q => by
  cases h
  exact q ws H (Stp.refl _ _) S⟩
theorem do_some (h : DE X e f) : DO' X (some e) (fPart f) :=
  let ⟨_, pa, ea⟩ := h.ex
  ⟨_, po_some pa, fun ws H s σ ρ d s' Q S N h q => by
    obtain ⟨x, s1, h1, h⟩ := bnd_some h
    obtain ⟨h2, rfl⟩ := got_some h
    split at h2
    · cases h2
      refine ea ws H s σ ρ _ _ _ S N h1 fun v ws1 H1 t1 S1 r1 => ?_
      cases r1
      exact ⟨_, rfl, q ws1 H1 t1 S1⟩
    · cases h2⟩
def fSl (f : M D) (lo hi : M (Option Int)) : M D := bnd f fun x => bnd lo fun l => bnd hi fun h => got fun s => slD s x l h
theorem de_slice {lo hi : Option Expr} {fl fh : M (Option Int)} {p2 : Pos} (ha : DE X e f) (hl : DO' X lo fl) (hh : DO' X hi fh) : DE X (.Subscript e (.Slice lo hi none p2) pos) (fSl f fl fh) :=
  let ⟨_, pa, ea⟩ := ha.ex
  let ⟨_, pl, el⟩ := hl.ex
  let ⟨_, ph, eh⟩ := hh.ex
  ⟨_, pe_slice (sl_tupA.or (sl_str.or sl_list)) pa pl ph, fun ws H s σ ρ d s' Q S N h q => by
    obtain ⟨x, s1, h1, h⟩ := bnd_some h
    obtain ⟨lo', s2, h2, h⟩ := bnd_some h
    obtain ⟨hi', s3, h3, h5⟩ := bnd_some h
    obtain ⟨h4, rfl⟩ := got_some h5
    clear h
    refine ea ws H s σ ρ x s1 _ S N h1 fun v ws1 H1 t1 S1 r1 => ?_
    refine el ws1 H1 s1 σ ρ lo' s2 _ S1 (N.stp t1) h2 fun ws2 H2 t2 S2 => ?_
    refine eh ws2 H2 s2 σ ρ hi' _ _ S2 ((N.stp t1).stp t2) h3 fun ws3 H3 t3 S3 => ?_
    have r3 := (r1.stp t2).stp t3
    have t0 := (t1.trans t2).trans t3
    unfold slD at h4
    split at h4
    · rename_i ds
      cases h4
      obtain ⟨p, xs, rfl, k1, k2⟩ := r3
      refine .inl ⟨p, xs, rfl, sqT_un k1, fun hw => ?_, fun _ p' hp => ?_⟩
      · refine q _ ws3 H3 t0 S3 ⟨p, xs, rfl, k1, ?_⟩
        have : cutD ds lo' hi' = ds := by
          unfold cutD
          rw [k2.length, hw.1, hw.2, List.drop_zero, Nat.sub_zero, ← k2.length, List.take_length]
        rw [this]
        exact k2
      · have t4 : Stp ws3 H3 ws3 (upd H3 p' (.tup (cutV xs lo' hi'))) := S3.stp_new hp
        exact q _ ws3 _ (t0.trans t4) (S3.new hp) ⟨p', _, rfl, .of (S3.at_new hp), (reps_cut k2 _ _).stp t4⟩
    · split at h4
      · rename_i hz
        cases h4
        cases r3
        exact .inr (.inl ⟨_, rfl, lim_sz hz, q _ ws3 H3 t0 S3 rfl⟩)
      · cases h4
    · obtain ⟨ds, h7, rfl⟩ := Option.map_eq_some_iff.mp h4
      obtain ⟨p, xs, rfl, k1, k2⟩ := itL_ok S3 r3 h7
      refine .inr (.inr ⟨p, xs, rfl, k1, fun p' hp => ?_⟩)
      have t4 : Stp ws3 H3 ws3 (upd H3 p' (.lst (cutV xs lo' hi'))) := S3.stp_new hp
      exact q _ ws3 _ (t0.trans t4) (S3.new hp) ⟨p', _, rfl, S3.at_new hp, (reps_cut k2 _ _).stp t4⟩⟩

/-! ### built-ins -/
abbrev GC := Sto → List D → Option D
def CallS (K : PySem.W.Frag) (r : List V → Hp → VK → Prop) (g : GC) : Prop := ∀ (ws : Ws) (H : Hp) (s : Sto) (xs : List D) (z : D) (vs : List V) (Q : VK), Sta K ws H s → Reps K ws (mask ws H) xs vs → g s xs = some z →
  (∀ w ws' H', Stp ws H ws' H' → Sta K ws' H' s → Rep K ws' (mask ws' H') z w → Q w H') → r vs H Q
def fCB (g : GC) (fa : M (List D)) : M D := bnd fa fun xs => got fun s => g s xs
theorem ev_cb {K : PySem.W.Frag} {r : List V → Hp → VK → Prop} {gg : GC} {ta : TA} {fa : M (List D)} (ho : CallS K r gg) (ea : EvA K ta fa) : EvS K (tCB r ta) (fCB gg fa) := fun ws H s σ ρ d s' Q S N h q => by
  obtain ⟨xs, s1, h1, h⟩ := bnd_some h
  obtain ⟨h2, rfl⟩ := got_some h
  refine ea ws H s σ ρ xs _ _ S N h1 fun vs ws1 H1 t1 S1 r1 => ?_
  exact ho ws1 H1 _ xs d vs Q S1 r1 h2 fun w ws2 H2 t2 S2 r2 => q w ws2 H2 (t1.trans t2) S2 r2
theorem de_callB {x : Str} {id : String} {r : List V → Hp → VK → Prop} {gg : GC} {fa : M (List D)} (hc : CallR X (.builtin id) r) (ho : CallS X.K r gg) (hm : X.mg x = none) (hv : bootBuiltins x = some (.builtin id)) (ha : DA X (e :: es) fa) (hg : Gl X x := by rfl)
    (hn : x ≠ "__name__" := by decide) (hdb : (x == ("__debug__" : Str)) = false := by decide)
    (he : starEach (e :: es) X.env = (false, eval e X.env) :: starEach es X.env := by rfl) (hpl : (backTo pos (starEach es X.env)).any (·.1) = false := by rfl) : DE X (.Call (.Name x p) (e :: es) [] pos) (fCB gg fa) :=
  let ⟨_, pa, ea⟩ := ha.ex
  ⟨_, pe_callB hc hg hm hv pa hn hdb he hpl, ev_cb ho ea⟩
theorem de_callTy {x : Str} {T : String} {r : List V → Hp → VK → Prop} {gg : GC} {fa : M (List D)} (hc : CallR X (.type T) r) (ho : CallS X.K r gg) (hm : X.mg x = none) (hv : bootBuiltins x = some (.type T)) (ha : DA X (e :: es) fa) (hg : Gl X x := by rfl)
    (hn : x ≠ "__name__" := by decide) (hdb : (x == ("__debug__" : Str)) = false := by decide)
    (he : starEach (e :: es) X.env = (false, eval e X.env) :: starEach es X.env := by rfl) (hpl : (backTo pos (starEach es X.env)).any (·.1) = false := by rfl) : DE X (.Call (.Name x p) (e :: es) [] pos) (fCB gg fa) :=
  let ⟨_, pa, ea⟩ := ha.ex
  ⟨_, pe_callTy hc hg hm hv pa hn hdb he hpl, ev_cb ho ea⟩
end
theorem reps_one {K : PySem.W.Frag} {ws : Ws} {H : Hp} {x : D} {vs : List V} (h : Reps K ws H [x] vs) : ∃ v, vs = [v] ∧ Rep K ws H x v := by
  obtain ⟨v, r, rfl, h1, rfl⟩ := h
  exact ⟨v, rfl, h1⟩
/-- one argument -/
def c1 (g : Sto → D → Option D) : GC := fun s xs => match xs with
  | [x] => g s x
  | _ => none
theorem c1_some {g : Sto → D → Option D} {s : Sto} {xs : List D} {z : D} (h : c1 g s xs = some z) : ∃ x, xs = [x] ∧ g s x = some z := by
  unfold c1 at h
  split at h
  · exact ⟨_, rfl, h⟩
  · cases h
section
variable {X : Cx} {K : PySem.W.Frag}
def lenD (s : Sto) : D → Option D
  | .str z => if z.length ≤ LIM then some (.int z.length) else none
  | .tup ds => some (.int ds.length)
  | x => (itL s x).map fun ds => .int ds.length
theorem cs_len : CallS K (fun xs H Q => ∃ x n, xs = [x] ∧ LenV K x H n ∧ Q (.int n) H) (c1 lenD) := fun ws H s xs z vs Q S r e q => by
  obtain ⟨x, rfl, e1⟩ := c1_some e
  obtain ⟨v, rfl, r1⟩ := reps_one r
  replace e := e1
  replace r := r1
  unfold lenD at e
  split at e
  · split at e
    · rename_i hl
      cases e
      cases r
      exact ⟨_, _, rfl, ⟨lim_sz hl, rfl⟩, q _ ws H (Stp.refl _ _) S rfl⟩
    · cases e
  · cases e
    obtain ⟨a, ys, rfl, h1, h2⟩ := r
    refine ⟨_, _, rfl, .inr ⟨ys, sqT_un h1, rfl⟩, ?_⟩
    rw [← h2.length]
    exact q _ ws H (Stp.refl _ _) S rfl
  · obtain ⟨ds, h, rfl⟩ := Option.map_eq_some_iff.mp e
    obtain ⟨a, ys, rfl, h1, h2⟩ := itL_ok S r h
    refine ⟨_, _, rfl, .inl ⟨ys, h1, rfl⟩, ?_⟩
    rw [← h2.length]
    exact q _ ws H (Stp.refl _ _) S rfl
def tupleD (s : Sto) : D → Option D
  | .tup ds => some (.tup ds)
  | x => (itL s x).map .tup
theorem cs_tuple : CallS K (fun xs H Q => ∃ p ys, xs = [.ref p] ∧ ((SqL K H p ys ∧ ∀ l, H l = none → Q (.ref l) (upd H l (.tup ys))) ∨ (SqT K H p ys ∧ Q (.ref p) H))) (c1 tupleD) := fun ws H s xs z vs Q S r e q => by
  obtain ⟨x, rfl, e1⟩ := c1_some e
  obtain ⟨v, rfl, r1⟩ := reps_one r
  replace e := e1
  replace r := r1
  unfold tupleD at e
  split at e
  · cases e
    obtain ⟨a, ys, rfl, h1, h2⟩ := r
    exact ⟨a, ys, rfl, .inr ⟨sqT_un h1, q _ ws H (Stp.refl _ _) S ⟨a, ys, rfl, h1, h2⟩⟩⟩
  · obtain ⟨ds, h, rfl⟩ := Option.map_eq_some_iff.mp e
    obtain ⟨a, ys, rfl, h1, h2⟩ := itL_ok S r h
    refine ⟨a, ys, rfl, .inl ⟨h1, fun l hl => ?_⟩⟩
    have t : Stp ws H ws (upd H l (.tup ys)) := S.stp_new hl
    exact q _ ws _ t (S.new hl) ⟨l, ys, rfl, .of (S.at_new hl), h2.stp t⟩
def listD (s : Sto) : D → Option D
  | .tup ds => some (.lst ds)
  | x => (itL s x).map .lst
theorem cs_list : CallS K (fun xs H Q => ∃ p ys, xs = [.ref p] ∧ (SqL K H p ys ∨ SqT K H p ys) ∧ ∀ l, H l = none → Q (.ref l) (upd H l (.lst ys))) (c1 listD) := fun ws H s xs z vs Q S r e q => by
  obtain ⟨x, rfl, e1⟩ := c1_some e
  obtain ⟨v, rfl, r1⟩ := reps_one r
  replace e := e1
  replace r := r1
  unfold listD at e
  split at e
  · cases e
    obtain ⟨a, ys, rfl, h1, h2⟩ := r
    refine ⟨a, ys, rfl, .inr (sqT_un h1), fun l hl => ?_⟩
    have t : Stp ws H ws (upd H l (.lst ys)) := S.stp_new hl
    exact q _ ws _ t (S.new hl) ⟨l, ys, rfl, S.at_new hl, h2.stp t⟩
  · obtain ⟨ds, h, rfl⟩ := Option.map_eq_some_iff.mp e
    obtain ⟨a, ys, rfl, h1, h2⟩ := itL_ok S r h
    refine ⟨a, ys, rfl, .inl h1, fun l hl => ?_⟩
    have t : Stp ws H ws (upd H l (.lst ys)) := S.stp_new hl
    exact q _ ws _ t (S.new hl) ⟨l, ys, rfl, S.at_new hl, h2.stp t⟩
def intsD : List D → Option (List Int)
  | [] => some []
  | .int i :: ds => (intsD ds).map (i :: ·)
  | _ => none
theorem intsD_ok {ws : Ws} {H : Hp} : ∀ {ds : List D} {vs : List V} {ns : List Int}, Reps K ws H ds vs → intsD ds = some ns → vs = ns.map V.int
  | [], _, _, r, e => by cases r; cases e; rfl
  | d :: ds, _, ns, ⟨v, w, hv, r1, r2⟩, e => by
    unfold intsD at e
    split at e
    · rename_i h; cases h
    · rename_i i ds' h
      cases h
      obtain ⟨ms, h1, rfl⟩ := Option.map_eq_some_iff.mp e
      cases r1
      rw [hv, intsD_ok r2 h1]
      rfl
    · cases e
def blsD : List D → Option (List Bool)
  | [] => some []
  | .bl i :: ds => (blsD ds).map (i :: ·)
  | _ => none
theorem blsD_ok {ws : Ws} {H : Hp} : ∀ {ds : List D} {vs : List V} {ns : List Bool}, Reps K ws H ds vs → blsD ds = some ns → vs = ns.map V.bl
  | [], _, _, r, e => by cases r; cases e; rfl
  | d :: ds, _, ns, ⟨v, w, hv, r1, r2⟩, e => by
    unfold blsD at e
    split at e
    · rename_i h; cases h
    · rename_i i ds' h
      cases h
      obtain ⟨ms, h1, rfl⟩ := Option.map_eq_some_iff.mp e
      cases r1
      rw [hv, blsD_ok r2 h1]
      rfl
    · cases e
def sumD (s : Sto) (x : D) : Option D := ((itL s x).bind intsD).map fun ns => .int ns.sum
theorem cs_sum : CallS K (rSum K) (c1 sumD) := fun ws H s xs z vs Q S r e q => by
  obtain ⟨x, rfl, e1⟩ := c1_some e
  obtain ⟨v, rfl, r1⟩ := reps_one r
  replace e := e1
  replace r := r1
  obtain ⟨ns, h, rfl⟩ := Option.map_eq_some_iff.mp e
  obtain ⟨ds, h3, h4⟩ := Option.bind_eq_some_iff.mp h
  obtain ⟨a, ys, rfl, h1, h2⟩ := itL_ok S r h3
  have := intsD_ok h2 h4
  subst this
  exact ⟨a, ns, rfl, h1, q _ ws H (Stp.refl _ _) S rfl⟩
def allD (s : Sto) (x : D) : Option D := ((itL s x).bind blsD).map fun ns => .bl (ns.all id)
def anyD (s : Sto) (x : D) : Option D := ((itL s x).bind blsD).map fun ns => .bl (ns.any id)
theorem cs_all : CallS K (rAll K) (c1 allD) := fun ws H s xs z vs Q S r e q => by
  obtain ⟨x, rfl, e1⟩ := c1_some e
  obtain ⟨v, rfl, r1⟩ := reps_one r
  replace e := e1
  replace r := r1
  obtain ⟨ns, h, rfl⟩ := Option.map_eq_some_iff.mp e
  obtain ⟨ds, h3, h4⟩ := Option.bind_eq_some_iff.mp h
  obtain ⟨a, ys, rfl, h1, h2⟩ := itL_ok S r h3
  have := blsD_ok h2 h4
  subst this
  exact ⟨a, ns, rfl, h1, q _ ws H (Stp.refl _ _) S rfl⟩
theorem cs_any : CallS K (rAny K) (c1 anyD) := fun ws H s xs z vs Q S r e q => by
  obtain ⟨x, rfl, e1⟩ := c1_some e
  obtain ⟨v, rfl, r1⟩ := reps_one r
  replace e := e1
  replace r := r1
  obtain ⟨ns, h, rfl⟩ := Option.map_eq_some_iff.mp e
  obtain ⟨ds, h3, h4⟩ := Option.bind_eq_some_iff.mp h
  obtain ⟨a, ys, rfl, h1, h2⟩ := itL_ok S r h3
  have := blsD_ok h2 h4
  subst this
  exact ⟨a, ns, rfl, h1, q _ ws H (Stp.refl _ _) S rfl⟩
def absD (_ : Sto) : D → Option D
  | .int i => some (.int (if i < 0 then -i else i))
  | _ => none
theorem cs_abs : CallS K (fun xs H Q => ∃ i, xs = [.int i] ∧ Q (.int (if i < 0 then -i else i)) H) (c1 absD) := fun ws H s xs z vs Q S r e q => by
  obtain ⟨x, rfl, e1⟩ := c1_some e
  obtain ⟨v, rfl, r1⟩ := reps_one r
  replace e := e1
  replace r := r1
  unfold absD at e
  split at e
  · cases e
    cases r
    exact ⟨_, rfl, q _ ws H (Stp.refl _ _) S rfl⟩
  · cases e
def intD (_ : Sto) : D → Option D
  | .int i => some (.int i)
  | .bl b => some (.int (if b then 1 else 0))
  | _ => none
theorem cs_int : CallS K (fun xs H Q => (∃ i, xs = [.int i] ∧ Q (.int i) H) ∨ ∃ k, xs = [.bl k] ∧ Q (.int (if k then 1 else 0)) H) (c1 intD) := fun ws H s xs z vs Q S r e q => by
  obtain ⟨x, rfl, e1⟩ := c1_some e
  obtain ⟨v, rfl, r1⟩ := reps_one r
  replace e := e1
  replace r := r1
  unfold intD at e
  split at e
  · cases e
    cases r
    exact .inl ⟨_, rfl, q _ ws H (Stp.refl _ _) S rfl⟩
  · cases e
    cases r
    exact .inr ⟨_, rfl, q _ ws H (Stp.refl _ _) S rfl⟩
  · cases e
end
end
end VL
set_option Elab.async false
set_option maxRecDepth 100000
set_option maxHeartbeats 4000000
set_option linter.all false
set_option autoImplicit false
namespace VL
open PySem L2
noncomputable section

/-! ### equal data -/
mutual
def sameD : D → D → Bool
  | .non, .non => true
  | .bl a, .bl b => a == b
  | .int a, .int b => a == b
  | .str a, .str b => decide (a = b)
  | .lst a, .lst b => sameDs a b
  | .tup a, .tup b => sameDs a b
  | .lck a, .lck b => sameDs a b
  | .own a, .own b => a == b
  | _, _ => false
def sameDs : List D → List D → Bool
  | [], [] => true
  | a :: as, b :: bs => sameD a b && sameDs as bs
  | _, _ => false
end
mutual
theorem sameD_ok : ∀ (a b : D), sameD a b = true → a = b
  | .non, b, h => by cases b <;> first | rfl | cases h
  | .bl _, b, h => by cases b <;> first | (cases h; done) | (simp [sameD] at h; rw [h])
  | .int _, b, h => by cases b <;> first | (cases h; done) | (simp [sameD] at h; rw [h])
  | .str _, b, h => by cases b <;> first | (cases h; done) | (simp [sameD] at h; rw [h])
  | .own _, b, h => by cases b <;> first | (cases h; done) | (simp [sameD] at h; rw [h])
  | .lst as, b, h => by cases b <;> first | (cases h; done) | (rw [sameDs_ok as _ (by simpa [sameD] using h)])
  | .tup as, b, h => by cases b <;> first | (cases h; done) | (rw [sameDs_ok as _ (by simpa [sameD] using h)])
  | .lck as, b, h => by cases b <;> first | (cases h; done) | (rw [sameDs_ok as _ (by simpa [sameD] using h)])
theorem sameDs_ok : ∀ (a b : List D), sameDs a b = true → a = b
  | [], b, h => by cases b <;> first | rfl | cases h
  | a :: as, b, h => by
    cases b with
    | nil => cases h
    | cons b bs =>
      simp [sameDs] at h
      rw [sameD_ok a b h.1, sameDs_ok as bs h.2]
end
mutual
theorem sameD_refl : ∀ a : D, sameD a a = true
  | .non => rfl
  | .bl _ => by simp [sameD]
  | .int _ => by simp [sameD]
  | .str _ => by simp [sameD]
  | .own _ => by simp [sameD]
  | .lst as => by simp only [sameD]; exact sameDs_refl as
  | .tup as => by simp only [sameD]; exact sameDs_refl as
  | .lck as => by simp only [sameD]; exact sameDs_refl as
theorem sameDs_refl : ∀ a : List D, sameDs a a = true
  | [] => rfl
  | a :: as => by simp only [sameDs, sameD_refl a, sameDs_refl as, Bool.and_self]
end

/-! ### isinstance -/
inductive TN where
  | int | bool | str | list | tuple
def TN.nm : TN → String
  | .int => "int" | .bool => "bool" | .str => "str" | .list => "list" | .tuple => "tuple"
def tyD : D → String
  | .non => "NoneType" | .bl _ => "bool" | .int _ => "int" | .str _ => "str" | .lst _ => "list" | .lck _ => "list" | .own _ => "list" | .tup _ => "tuple"
def isT : TN → D → Bool
  | .int, .int _ => true
  | .int, .bl _ => true
  | .bool, .bl _ => true
  | .str, .str _ => true
  | .list, .lst _ => true
  | .list, .lck _ => true
  | .list, .own _ => true
  | .tuple, .tup _ => true
  | _, _ => false
theorem kit_isT {K : PySem.W.Frag} (T : TN) (d : D) : PySem.W.kitOne K (.type (tyD d)) (.type T.nm) = some (isT T d) := by
  refine L2.kit_ty ?_
  cases T <;> cases d <;> (simp only [tyD, TN.nm, isT]; decide +kernel)
theorem tyX_ok {K : PySem.W.Frag} {ws : Ws} {H : Hp} {s : Sto} {d : D} {v : V} (S : Sta K ws H s) (r : Rep K ws (mask ws H) d v) : L2.TyX K H v (.type (tyD d)) := by
  cases d with
  | non => cases r; exact .base .non
  | bl x => cases r; exact .base (.bl x)
  | int i => cases r; exact .base (.int i)
  | str y => cases r; exact .base (.str y)
  | lst ds =>
    obtain ⟨a, xs, rfl, h1, h2⟩ := r
    exact .base (.lst (mask_some h1).2)
  | lck ds =>
    obtain ⟨a, xs, rfl, h1, h2⟩ := r
    rcases sqL_un h1 with (h | ⟨o, h⟩) | ⟨o, its, n, h, hc, _⟩
    · exact .base (.lst h)
    · exact .base (.frz h)
    · exact .kList h hc
  | tup ds =>
    obtain ⟨a, xs, rfl, h1, h2⟩ := r
    rcases sqT_un h1 with (h | ⟨o, h⟩) | ⟨o, its, n, h, hc, _⟩
    · exact .base (.tup h)
    · exact .fTuple h
    · exact .kTuple h hc
  | own l =>
    obtain ⟨a, h1, rfl⟩ := r
    have hl : l < s.length := by rw [← S.len]; exact (List.getElem?_eq_some_iff.mp h1).1
    obtain ⟨xs, h3, _⟩ := S.own l a s[l] h1 (List.getElem?_eq_getElem hl)
    exact .base (.lst h3)
section
variable {X : Cx} {a b c e : Expr} {es : List Expr} {f g k : M D} {t u : M Bool} {pos p p' : Pos} {rest : List Expr}
def fIs (T : TN) (f : M D) : M D := bnd f fun x => ret (.bl (isT T x))
theorem de_isi {x : Str} (T : TN) (ha : DE X a f) (hm : X.mg "isinstance" = none) (hmT : X.mg x = none) (hvT : bootBuiltins x = some (.type T.nm) := by decide +kernel) (hg : Gl X "isinstance" := by rfl) (hgT : Gl X x := by rfl)
    (hn : x ≠ "__name__" := by decide) (hdb : (x == ("__debug__" : Str)) = false := by decide)
    (he : starEach [a, .Name x p'] X.env = (false, eval a X.env) :: starEach [.Name x p'] X.env := by rfl) (he2 : starEach [.Name x p'] X.env = (false, eval (.Name x p') X.env) :: starEach [] X.env := by rfl)
    (hpl : (backTo pos (starEach [.Name x p'] X.env)).any (·.1) = false := by rfl) : DE X (.Call (.Name "isinstance" p) [a, .Name x p'] [] pos) (fIs T f) :=
  let ⟨_, pa, ea⟩ := ha.ex
  ⟨_, pe_callB call_isi hg hm PyProof.Rows.boot_isinstance (pa_cons pa (pa_cons (pe_bltn (v := .ty T.nm) hgT hmT hvT rfl hn hdb) pa_nil he2) he) (by decide) (by decide) he hpl, fun ws H s σ ρ d s' Q S N h q => by
    obtain ⟨x, s1, h1, h⟩ := bnd_some h
    cases h
    refine ea ws H s σ ρ x _ _ S N h1 fun v ws1 H1 t1 S1 r1 => ?_
    exact ⟨v, .ty T.nm, _, _, _, rfl, .ty _, tyX_ok S1 r1, kit_isT T x, q _ ws1 H1 t1 S1 rfl⟩⟩

/-! ### defs -/
abbrev FM := Sto → List D → Option (D × Sto)
/-- the promise of a def: m tells its value, and the owned lists behind -/
def spF (K : PySem.W.Frag) (n : Nat) (m : FM) : Sp := fun vs H Q _ => vs.length = n ∧ ∃ ws s ds d s', Sta K ws H s ∧ Reps K ws (mask ws H) ds vs ∧ m s ds = some (d, s') ∧
  ∀ v ws' H', Stp ws H ws' H' → Sta K ws' H' s' → Rep K ws' (mask ws' H') d v → Q v H'
def fCall (n : Nat) (m : FM) (fa : M (List D)) : M D := bnd fa fun xs => fun _ s => if xs.length = n then m s xs else none
theorem de_call {x : Str} {fa : M (List D)} {n k : Nat} {m : FM} {fd : FuncData} {ps : List Str} {f : Addr} (F : FnOk X.prog X.w X.K X.mg X.base CX0 k f fd ps (spF X.K n m)) (hr : Room k X.A) (hm : X.mg x = some (.ref f)) (hk : PySem.W.keepIn X.K (.ref f) = true) (hb : Binds X.K fd ps [])
    (ha : DA X (e :: es) fa) (hg : Gl X x := by rfl) (hdb : (x == ("__debug__" : Str)) = false := by decide)
    (he : starEach (e :: es) X.env = (false, eval e X.env) :: starEach es X.env := by rfl) (hpl : (backTo pos (starEach es X.env)).any (·.1) = false := by rfl) : DE X (.Call (.Name x p) (e :: es) [] pos) (fCall n m fa) :=
  let ⟨_, pa, ea⟩ := ha.ex
  ⟨_, pe_call F hr hg hm hk hb .nil pass0 pa hdb he hpl, fun ws H s σ ρ d s' Q S N h q => by
    obtain ⟨xs, s1, h1, h⟩ := bnd_some h
    split at h
    · rename_i hn
      refine ea ws H s σ ρ xs s1 _ S N h1 fun vs ws1 H1 t1 S1 r1 => ?_
      refine ⟨by rw [List.append_nil, ← r1.length]; exact hn, ws1, s1, xs, d, s', S1, by rw [List.append_nil]; exact r1, h, fun v ws2 H2 t2 S2 r2 => q v ws2 H2 (t1.trans t2) S2 r2⟩
    · cases h⟩

/-! ### what is walked -/
/-- the items, and the owned list that is walked (with what it holds) -/
abbrev Src := List D × Option (Nat × List D)
def chk : Option (Nat × List D) → Sto → Bool
  | none, _ => true
  | some (l, ds), s => match s[l]? with
    | some es => sameDs es ds
    | none => false
theorem chk_own {l : Nat} {ds : List D} {s : Sto} (h : chk (some (l, ds)) s = true) : s[l]? = some ds := by
  unfold chk at h
  split at h
  · rename_i hh; cases hh
  · rename_i l' ds' hh
    cases hh
    split at h
    · rename_i es e
      rw [e, sameDs_ok _ _ h]
    · cases h
structure Wk (K : PySem.W.Frag) (J : It) (ws : Ws) (H : Hp) (z : Src) : Prop where
  step : ∀ i d ws2 H2 s2, Stp ws H ws2 H2 → Sta K ws2 H2 s2 → chk z.2 s2 = true → z.1[i]? = some d → J.go i H2 ∧ ∀ x H3, J.yld i H2 x H3 → Stp ws2 H2 ws2 H3 ∧ Sta K ws2 H3 s2 ∧ Rep K ws2 (mask ws2 H3) d x
  stop : ∀ ws2 H2 s2, Stp ws H ws2 H2 → Sta K ws2 H2 s2 → chk z.2 s2 = true → J.stop z.1.length H2
def EvI (K : PySem.W.Frag) (wi : TI) (f : M Src) : Prop := ∀ (ws : Ws) (H : Hp) (s : Sto) (σ : L2.St) (ρ : Rho) (z : Src) (s' : Sto) (R : It → Hp → Prop), Sta K ws H s → EnvOk K ws H σ ρ → f ρ s = some (z, s') →
  (∀ J ws' H', Stp ws H ws' H' → Sta K ws' H' s' → Wk K J ws' H' z → R J H') → wi σ H R
structure DI (X : Cx) (tg e : Expr) (f : M Src) : Prop where
  ex : ∃ wi, PI X tg e wi ∧ EvI X.K wi f
theorem wk_list {K : PySem.W.Frag} {ws : Ws} {H : Hp} {a : Addr} {xs : List V} {ds : List D} (h : SqL K (mask ws H) a xs) (r : Reps K ws (mask ws H) ds xs) : Wk K (Itl K a) ws H (ds, none) where
  step := fun i d ws2 H2 s2 t S _ e => by
    have h2 : SqL K H2 a xs := sqL_un (sqL_mono t.fz h)
    obtain ⟨v, e1, r1⟩ := (r.stp t).get e
    refine ⟨⟨xs, v, h2, e1⟩, fun x H3 y => ?_⟩
    obtain ⟨rfl, y⟩ := y
    have := y xs h2
    rw [e1] at this
    cases this
    exact ⟨Stp.refl _ _, S, r1⟩
  stop := fun ws2 H2 s2 t S _ => ⟨xs, sqL_un (sqL_mono t.fz h), by rw [r.length]; exact Nat.le_refl _⟩
theorem wk_tup {K : PySem.W.Frag} {ws : Ws} {H : Hp} {a : Addr} {xs : List V} {ds : List D} (h : SqT K (mask ws H) a xs) (r : Reps K ws (mask ws H) ds xs) : Wk K (Itt K a) ws H (ds, none) where
  step := fun i d ws2 H2 s2 t S _ e => by
    have h2 : SqT K H2 a xs := sqT_un (sqT_mono t.fz h)
    obtain ⟨v, e1, r1⟩ := (r.stp t).get e
    refine ⟨⟨xs, v, h2, e1⟩, fun x H3 y => ?_⟩
    obtain ⟨rfl, y⟩ := y
    have := y xs h2
    rw [e1] at this
    cases this
    exact ⟨Stp.refl _ _, S, r1⟩
  stop := fun ws2 H2 s2 t S _ => ⟨xs, sqT_un (sqT_mono t.fz h), by rw [r.length]; exact Nat.le_refl _⟩
/-- two lists that may be read at one place are one, where one is tracked and open -/
theorem sqL_eq {K : PySem.W.Frag} {H : Hp} {a : Addr} {xs ys : List V} (h : H a = some (.lst xs)) (h2 : Rd H a (.lst ys)) : ys = xs := by
  rcases h2 with h2 | ⟨o, h2⟩
  · rw [h] at h2
    cases h2
    rfl
  · rw [h] at h2
    cases h2
/-- items of a list (frozen, locked) or a tuple -/
def srcD (s : Sto) : D → Option Src
  | .lst ds => some (ds, none)
  | .lck ds => some (ds, none)
  | _ => none
def fSrcL (f : M D) : M Src := bnd f fun x => got fun s => srcD s x
theorem di_list {tg : Expr} (ha : DE X e f) : DI X tg e (fSrcL f) :=
  let ⟨_, pa, ea⟩ := ha.ex
  ⟨_, pi_list pa, fun ws H s σ ρ z s' R S N h q => by
    obtain ⟨x, s1, h1, h⟩ := bnd_some h
    obtain ⟨h2, rfl⟩ := got_some h
    refine ea ws H s σ ρ x _ _ S N h1 fun v ws1 H1 t1 S1 r1 => ?_
    unfold srcD at h2
    split at h2
    · cases h2
      obtain ⟨a, xs, rfl, k1, k2⟩ := r1
      exact ⟨a, rfl, ⟨xs, .of (mask_some k1).2⟩, q _ ws1 H1 t1 S1 (wk_list (.of k1) k2)⟩
    · cases h2
      obtain ⟨a, xs, rfl, k1, k2⟩ := r1
      exact ⟨a, rfl, ⟨xs, sqL_un k1⟩, q _ ws1 H1 t1 S1 (wk_list k1 k2)⟩
    · cases h2⟩
def fSrcT (f : M D) : M Src := bnd f fun x => got fun s => match x with
  | .tup ds => some (ds, none)
  | _ => none
theorem di_tup {tg : Expr} (ha : DE X e f) : DI X tg e (fSrcT f) :=
  let ⟨_, pa, ea⟩ := ha.ex
  ⟨_, pi_tup pa, fun ws H s σ ρ z s' R S N h q => by
    obtain ⟨x, s1, h1, h⟩ := bnd_some h
    obtain ⟨h2, rfl⟩ := got_some h
    refine ea ws H s σ ρ x _ _ S N h1 fun v ws1 H1 t1 S1 r1 => ?_
    split at h2
    · cases h2
      obtain ⟨a, xs, rfl, k1, k2⟩ := r1
      exact ⟨a, rfl, ⟨xs, sqT_un k1⟩, q _ ws1 H1 t1 S1 (wk_tup k1 k2)⟩
    · cases h2⟩
/-- range -/
def rngD (lo : Int) (n : Nat) : List D := (List.range n).map fun (i : Nat) => .int (lo + (i : Int))
theorem wk_range {K : PySem.W.Frag} {ws : Ws} {H : Hp} {lo : Int} {n : Nat} : Wk K (Itr lo n) ws H (rngD lo n, none) where
  step := fun i d ws2 H2 s2 t S _ e => by
    unfold rngD at e
    simp only [List.getElem?_map, Option.map_eq_some_iff] at e
    obtain ⟨j, e, rfl⟩ := e
    obtain ⟨h1, h2⟩ := List.getElem?_eq_some_iff.mp e
    simp at h1 h2
    subst h2
    refine ⟨h1, fun x H3 y => ?_⟩
    obtain ⟨rfl, rfl⟩ := y
    exact ⟨Stp.refl _ _, S, rfl⟩
  stop := fun ws2 H2 s2 t S _ => by
    show n ≤ (rngD lo n).length
    unfold rngD
    rw [List.length_map, List.length_range]
    exact Nat.le_refl _
def fRng1 (f : M D) : M Src := bnd f fun x => got fun _ => match x with
  | .int j => if smallI j = true then some (rngD 0 j.toNat, none) else none
  | _ => none
def fRng2 (f g : M D) : M Src := bnd f fun x => bnd g fun y => got fun _ => match x, y with
  | .int i, .int j => if smallI i = true ∧ smallI j = true then some (rngD i (j - i).toNat, none) else none
  | _, _ => none
theorem di_range1 {tg : Expr} (ha : DE X a f) (hm : X.mg "range" = none) (hg : Gl X "range" := by rfl) (hs : starEach [a] X.env = [(false, eval a X.env)] := by rfl) : DI X tg (.Call (.Name "range" p) [a] [] pos) (fRng1 f) :=
  let ⟨_, pa, ea⟩ := ha.ex
  ⟨_, pi_range1 hg hm (pa_cons pa pa_nil hs) hs, fun ws H s σ ρ z s' R S N h q => by
    obtain ⟨x, s1, h1, h⟩ := bnd_some h
    obtain ⟨h2, rfl⟩ := got_some h
    refine ea ws H s σ ρ x _ _ S N h1 fun v ws1 H1 t1 S1 r1 => ?_
    split at h2
    · split at h2
      · rename_i j hj
        cases h2
        cases r1
        exact ⟨_, rfl, ((smallI_iff _).mp hj).1, ((smallI_iff _).mp hj).2, q _ ws1 H1 t1 S1 wk_range⟩
      · cases h2
    · cases h2⟩
theorem di_range2 {tg : Expr} (ha : DE X a f) (hb : DE X b g) (hm : X.mg "range" = none) (hg : Gl X "range" := by rfl) (hs : starEach [a, b] X.env = [(false, eval a X.env), (false, eval b X.env)] := by rfl) (hs2 : starEach [b] X.env = [(false, eval b X.env)] := by rfl) : DI X tg (.Call (.Name "range" p) [a, b] [] pos) (fRng2 f g) :=
  let ⟨_, pa, ea⟩ := ha.ex
  let ⟨_, pb, eb⟩ := hb.ex
  ⟨_, pi_range2 hg hm (pa_cons pa (pa_cons pb pa_nil hs2) (by rw [hs, hs2])) hs hs2, fun ws H s σ ρ z s' R S N h q => by
    obtain ⟨x, s1, h1, h⟩ := bnd_some h
    obtain ⟨y, s2, h3, h4⟩ := bnd_some h
    obtain ⟨h2, rfl⟩ := got_some h4
    refine ea ws H s σ ρ x s1 _ S N h1 fun v ws1 H1 t1 S1 r1 => ?_
    refine eb ws1 H1 s1 σ ρ y _ _ S1 (N.stp t1) h3 fun u ws2 H2 t2 S2 r2 => ?_
    split at h2
    · split at h2
      · rename_i i j hj
        cases h2
        cases r1
        cases r2
        exact ⟨_, _, rfl, ⟨((smallI_iff _).mp hj.1).1, ((smallI_iff _).mp hj.1).2, ((smallI_iff _).mp hj.2).1, ((smallI_iff _).mp hj.2).2⟩, q _ ws2 H2 (t1.trans t2) S2 wk_range⟩
      · cases h2
    · cases h2⟩
/-- a text, sign by sign -/
def signs (x : Str) : List D := x.cps.toList.map fun c => .str ⟨#[c]⟩
theorem wk_str {K : PySem.W.Frag} {ws : Ws} {H : Hp} {x : Str} : Wk K (Its x) ws H (signs x, none) where
  step := fun i d ws2 H2 s2 t S _ e => by
    unfold signs at e
    simp only [List.getElem?_map, Option.map_eq_some_iff] at e
    obtain ⟨c, e, rfl⟩ := e
    have e' : x.cps[i]? = some c := by simpa using e
    refine ⟨(Array.getElem?_eq_some_iff.mp e').1, fun v H3 y => ?_⟩
    obtain ⟨rfl, c', h1, rfl⟩ := y
    rw [e'] at h1
    cases h1
    exact ⟨Stp.refl _ _, S, rfl⟩
  stop := fun ws2 H2 s2 t S _ => by
    show x.cps.size ≤ (signs x).length
    unfold signs
    rw [List.length_map, Array.length_toList]
    exact Nat.le_refl _
def fSrcS (f : M D) : M Src := bnd f fun x => got fun s => match x with
  | .str z => some (signs z, none)
  | _ => none
theorem di_str {tg : Expr} (ha : DE X e f) : DI X tg e (fSrcS f) :=
  let ⟨_, pa, ea⟩ := ha.ex
  ⟨_, pi_str pa, fun ws H s σ ρ z s' R S N h q => by
    obtain ⟨x, s1, h1, h⟩ := bnd_some h
    obtain ⟨h2, rfl⟩ := got_some h
    refine ea ws H s σ ρ x _ _ S N h1 fun v ws1 H1 t1 S1 r1 => ?_
    split at h2
    · cases h2
      cases r1
      exact ⟨_, rfl, q _ ws1 H1 t1 S1 wk_str⟩
    · cases h2⟩

/-- any of these: a list, an owned list, a tuple, a text -/
theorem wk_own {K : PySem.W.Frag} {ws : Ws} {H : Hp} {a : Addr} {l : Nat} {ds : List D} (h : ws.own[l]? = some a) : Wk K (Itl K a) ws H (ds, some (l, ds)) where
  step := fun i d ws2 H2 s2 t S ck e => by
    obtain ⟨xs, h2, r⟩ := S.own l a ds (pre_get t.pre h) (chk_own ck)
    obtain ⟨v, e1, r1⟩ := r.get e
    refine ⟨⟨xs, v, .of h2, e1⟩, fun x H3 y => ?_⟩
    obtain ⟨rfl, y⟩ := y
    have := y xs (.of h2)
    rw [e1] at this
    cases this
    exact ⟨Stp.refl _ _, S, r1⟩
  stop := fun ws2 H2 s2 t S ck => by
    obtain ⟨xs, h2, r⟩ := S.own l a ds (pre_get t.pre h) (chk_own ck)
    exact ⟨xs, .of h2, by rw [← r.length]; exact Nat.le_refl _⟩
theorem pi_or {tg : Expr} {w1 w2 : TI} (h1 : PI X tg e w1) (h2 : PI X tg e w2) : PI X tg e (fun σ H R => w1 σ H R ∨ w2 σ H R) :=
  ⟨fun pins s σ H R I h => h.elim (h1.run pins s σ H R I) (h2.run pins s σ H R I)⟩
def srcA (s : Sto) : D → Option Src
  | .lst ds => some (ds, none)
  | .lck ds => some (ds, none)
  | .tup ds => some (ds, none)
  | .str z => some (signs z, none)
  | .own l => (s[l]?).map fun ds => (ds, some (l, ds))
  | _ => none
def fSrc (f : M D) : M Src := bnd f fun x => got fun s => srcA s x
theorem di_any {tg : Expr} (ha : DE X e f) : DI X tg e (fSrc f) :=
  let ⟨_, pa, ea⟩ := ha.ex
  ⟨_, pi_or (pi_list pa) (pi_or (pi_tup pa) (pi_str pa)), fun ws H s σ ρ z s' R S N h q => by
    obtain ⟨x, s1, h1, h⟩ := bnd_some h
    obtain ⟨h2, rfl⟩ := got_some h
    cases x with
    | lst ds =>
      cases h2
      refine .inl (ea ws H s σ ρ _ _ _ S N h1 fun v ws1 H1 t1 S1 r1 => ?_)
      obtain ⟨a, xs, rfl, k1, k2⟩ := r1
      exact ⟨a, rfl, ⟨xs, .of (mask_some k1).2⟩, q _ ws1 H1 t1 S1 (wk_list (.of k1) k2)⟩
    | lck ds =>
      cases h2
      refine .inl (ea ws H s σ ρ _ _ _ S N h1 fun v ws1 H1 t1 S1 r1 => ?_)
      obtain ⟨a, xs, rfl, k1, k2⟩ := r1
      exact ⟨a, rfl, ⟨xs, sqL_un k1⟩, q _ ws1 H1 t1 S1 (wk_list k1 k2)⟩
    | own l =>
      obtain ⟨ds, h3, rfl⟩ := Option.map_eq_some_iff.mp h2
      refine .inl (ea ws H s σ ρ _ _ _ S N h1 fun v ws1 H1 t1 S1 r1 => ?_)
      obtain ⟨a, k1, rfl⟩ := r1
      obtain ⟨xs, k2, k3⟩ := S1.own l a ds k1 h3
      exact ⟨a, rfl, ⟨xs, .of k2⟩, q _ ws1 H1 t1 S1 (wk_own k1)⟩
    | tup ds =>
      cases h2
      refine .inr (.inl (ea ws H s σ ρ _ _ _ S N h1 fun v ws1 H1 t1 S1 r1 => ?_))
      obtain ⟨a, xs, rfl, k1, k2⟩ := r1
      exact ⟨a, rfl, ⟨xs, sqT_un k1⟩, q _ ws1 H1 t1 S1 (wk_tup k1 k2)⟩
    | str z =>
      cases h2
      refine .inr (.inr (ea ws H s σ ρ _ _ _ S N h1 fun v ws1 H1 t1 S1 r1 => ?_))
      cases r1
      exact ⟨_, rfl, q _ ws1 H1 t1 S1 wk_str⟩
    | _ => cases h2⟩

/-! ### targets -/
structure DG (X : Cx) (tg : Expr) (g : D → Rho → Option Rho) (is : List Nat) : Prop where
  ex : ∃ t, PG X tg t ∧ ∀ ws H σ ρ d v ρ' Q, EnvOk X.K ws H σ ρ → Rep X.K ws (mask ws H) d v → g d ρ = some ρ' → (∀ σ', EnvOk X.K ws H σ' ρ' → (∀ vs, (∀ i ∈ is, i ∈ vs) → L2.wipe σ' vs = L2.wipe σ vs) → Q σ' H) → t v σ H Q
structure DGs (X : Cx) (tgs : List Expr) (g : List D → Rho → Option Rho) (is : List Nat) : Prop where
  ex : ∃ t, PGs X tgs t ∧ ∀ ws H σ ρ ds vs ρ' Q, EnvOk X.K ws H σ ρ → Reps X.K ws (mask ws H) ds vs → g ds ρ = some ρ' → (∀ σ', EnvOk X.K ws H σ' ρ' → (∀ vs, (∀ i ∈ is, i ∈ vs) → L2.wipe σ' vs = L2.wipe σ vs) → Q σ' H) → t vs σ H Q
theorem wipe_set {σ : L2.St} {i : Nat} {x : Option V} : ∀ {vs : List Nat}, i ∉ vs → L2.wipe (σ.set i x) vs = (L2.wipe σ vs).set i x
  | [], _ => rfl
  | v :: vs, h => by
    have h1 : i ≠ v := fun e => h (by rw [e]; exact List.mem_cons_self)
    have h2 : i ∉ vs := fun e => h (List.mem_cons_of_mem _ e)
    unfold L2.wipe
    rw [wipe_set h2, List.set_comm _ _ h1]
theorem wipe_in {σ : L2.St} {i : Nat} {x : Option V} : ∀ {vs : List Nat}, i ∈ vs → L2.wipe (σ.set i x) vs = L2.wipe σ vs
  | v :: vs, h => by
    unfold L2.wipe
    by_cases h2 : i ∈ vs
    · rw [wipe_in h2]
    · have e : i = v := by
        rcases List.mem_cons.mp h with e | e
        · exact e
        · exact absurd e h2
      subst e
      rw [wipe_set h2, List.set_set]
def gNm (i : Nat) (d : D) (ρ : Rho) : Option Rho := some (ρ.set i (some d))
theorem dg_name (i : Nat) {x : Str} (hN : X.N.Nodup) (hi : X.N[i]? = some x := by rfl) (hx : Loc X.env.scope x := by first | exact Or.inl rfl | exact Or.inr rfl) (hf : X.fn x = true ∨ X.env.scope.names.lookup x = some .local := by first | exact .inl rfl | exact .inr rfl | assumption) : DG X (.Name x pos) (gNm i) [i] :=
  ⟨_, pg_name hN hi hx hf, fun ws H σ ρ d v ρ' Q N r h q => by
    cases h
    exact q _ (N.set r) fun vs hv => wipe_in (hv i (List.mem_singleton.mpr rfl))⟩
def gNl (ds : List D) (ρ : Rho) : Option Rho := match ds with
  | [] => some ρ
  | _ => none
def gCn (g : D → Rho → Option Rho) (gs : List D → Rho → Option Rho) (ds : List D) (ρ : Rho) : Option Rho := match ds with
  | d :: r => match g d ρ with
    | some ρ1 => gs r ρ1
    | none => none
  | [] => none
theorem dgs_nil : DGs X [] gNl [] := ⟨_, pgs_nil, fun ws H σ ρ ds vs ρ' Q N r h q => by
  unfold gNl at h
  split at h
  · cases h
    cases r
    exact ⟨rfl, q σ N fun _ _ => rfl⟩
  · cases h⟩
theorem dgs_cons {e : Expr} {es : List Expr} {g : D → Rho → Option Rho} {gs : List D → Rho → Option Rho} {is js : List Nat} (h1 : DG X e g is) (h2 : DGs X es gs js) (hs : (assignEach (e :: es) X.env).map (·.2) = assign e X.env :: (assignEach es X.env).map (·.2) := by rfl) : DGs X (e :: es) (gCn g gs) (is ++ js) :=
  let ⟨_, pa, ea⟩ := h1.ex
  let ⟨_, pb, eb⟩ := h2.ex
  ⟨_, pgs_cons pa pb hs, fun ws H σ ρ ds vs ρ' Q N r h q => by
    unfold gCn at h
    split at h
    · rename_i d ds'
      obtain ⟨v, w, rfl, r1, r2⟩ := r
      split at h
      · rename_i ρ1 h3
        refine ⟨v, w, rfl, ea ws H σ ρ d v ρ1 _ N r1 h3 fun σ1 N1 w1 => eb ws H σ1 ρ1 ds' w ρ' _ N1 r2 h fun σ2 N2 w2 => q σ2 N2 fun vs hv => ?_⟩
        rw [w2 vs fun i hi => hv i (List.mem_append_right _ hi), w1 vs fun i hi => hv i (List.mem_append_left _ hi)]
      · cases h
    · cases h⟩
def gTp (n : Nat) (gs : List D → Rho → Option Rho) (d : D) (ρ : Rho) : Option Rho := match d with
  | .tup ds => if ds.length = n then gs ds ρ else none
  | _ => none
theorem dg_tup {es : List Expr} {k n : Nat} {gs : List D → Rho → Option Rho} {is : List Nat} (hc : X.calm = true) (h : DGs X es gs is) (hn : (assignEach es X.env).length = n := by rfl) (hst : (assignEach es X.env).findIdx? (·.1) = none := by rfl) : DG X (.Tuple es k pos) (gTp n gs) is :=
  let ⟨_, pa, ea⟩ := h.ex
  ⟨_, pg_tup hc pa hn hst, fun ws H σ ρ d v ρ' Q N r h q => by
    unfold gTp at h
    split at h
    · split at h
      · rename_i ds hl
        obtain ⟨a, xs, rfl, k1, k2⟩ := r
        exact ⟨a, xs, rfl, sqT_un k1, by rw [← k2.length]; exact hl, ea ws H σ ρ ds xs ρ' Q N k2 h q⟩
      · cases h
    · cases h⟩
end
end
end VL
set_option Elab.async false
set_option maxRecDepth 100000
set_option maxHeartbeats 4000000
set_option linter.all false
set_option autoImplicit false
namespace VL
open PySem L2
noncomputable section

/-! ### comprehensions -/
structure DTs (X : Cx) (ifs : List Expr) (f : M Bool) : Prop where
  ex : ∃ tt, PTs X ifs tt ∧ EvT X.K tt f
theorem dts_nil {X : Cx} : DTs X [] (ret true) := ⟨_, pts_nil, fun ws H s σ ρ d s' Q S N h q => by
  cases h
  exact q ws H (Stp.refl _ _) S⟩
theorem dts_one {X : Cx} {c : Expr} {t : M Bool} (h : DT X c t) : DTs X [c] t := let ⟨_, pa, ea⟩ := h.ex; ⟨_, pts_one pa, ea⟩
def lcL (g : D → Rho → Option Rho) (ft : M Bool) (fe : M D) (ck : Option (Nat × List D)) (ρ : Rho) : List D → Sto → Option (List D × Sto)
  | [], s => if chk ck s = true then some ([], s) else none
  | d :: ds, s => if chk ck s = true then match g d ρ with
    | some ρ1 => match ft ρ1 s with
      | some (true, s1) => match fe ρ1 s1 with
        | some (y, s2) => match lcL g ft fe ck ρ ds s2 with
          | some (ys, s3) => some (y :: ys, s3)
          | none => none
        | none => none
      | some (false, s1) => lcL g ft fe ck ρ ds s1
      | none => none
    | none => none
    else none
def fLc (fi : M Src) (g : D → Rho → Option Rho) (ft : M Bool) (fe : M D) (vs : List Nat) : M D := bnd fi fun z => fun ρ s => if z.1.length ≤ LIM then match lcL g ft fe z.2 (wipeD ρ vs) z.1 s with
  | some (ys, s') => some (.lst ys, s')
  | none => none
  else none
theorem mask_hide {ws : Ws} {H : Hp} {p : Addr} {o : HO} (h : H p = none) : mask ⟨ws.own, p :: ws.hid⟩ (upd H p o) = mask ws H := by
  funext a
  unfold mask
  by_cases ha : a = p
  · subst ha
    rw [if_pos (.inr List.mem_cons_self), h]
    split <;> rfl
  · rw [upd_ne ha]
    by_cases h1 : a ∈ ws.own ∨ a ∈ ws.hid
    · rw [if_pos h1, if_pos (h1.imp id (List.mem_cons_of_mem _))]
    · rw [if_neg h1, if_neg (fun z => h1 (z.imp id fun z => (List.mem_cons.mp z).resolve_left ha))]
theorem lcL_len {g : D → Rho → Option Rho} {ft : M Bool} {fe : M D} {ck : Option (Nat × List D)} {ρ : Rho} : ∀ {ds : List D} {s : Sto} {ys : List D} {s' : Sto}, lcL g ft fe ck ρ ds s = some (ys, s') → ys.length ≤ ds.length
  | [], s, ys, s', h => by
    unfold lcL at h
    split at h
    · cases h; exact Nat.le_refl _
    · cases h
  | d :: ds, s, ys, s', h => by
    unfold lcL at h
    split at h
    · split at h
      · split at h
        · split at h
          · split at h
            · rename_i zs s3 h1
              cases h
              have := lcL_len h1
              exact Nat.succ_le_succ this
            · cases h
          · cases h
        · exact Nat.le_succ_of_le (lcL_len h)
        · cases h
      · cases h
    · cases h
/-- what is already made, and what the rest gives -/
theorem ev_lc {K : PySem.W.Frag} {wi : TI} {tg : TG} {tt : TT} {te : TE} {fi : M Src} {g : D → Rho → Option Rho} {ft : M Bool} {fe : M D} {is vs : List Nat} (hi : EvI K wi fi)
    (hg : ∀ ws H σ ρ d v ρ' Q, EnvOk K ws H σ ρ → Rep K ws (mask ws H) d v → g d ρ = some ρ' → (∀ σ', EnvOk K ws H σ' ρ' → (∀ vs, (∀ i ∈ is, i ∈ vs) → L2.wipe σ' vs = L2.wipe σ vs) → Q σ' H) → tg v σ H Q)
    (hv : ∀ i ∈ is, i ∈ vs) (ht : EvT K tt ft) (he : EvS K te fe) : EvS K (tLc wi tg tt te vs) (fLc fi g ft fe vs) := by
  intro ws H s σ ρ d s' Q S N h q
  obtain ⟨z, s1, h1, h⟩ := bnd_some h
  split at h
  · rename_i hlim
    split at h
    · rename_i ys sE hl
      cases h
      refine hi ws H s σ ρ z s1 _ S N h1 fun J ws1 H1 t1 S1 wk Dd hD => ?_
      have hwipe : ∀ σ0, L2.wipe (L2.wipe σ0 vs) vs = L2.wipe σ0 vs := by
        have gen : ∀ (us : List Nat) (σ0 : L2.St), (∀ u ∈ us, u ∈ vs) → L2.wipe (L2.wipe σ0 us) vs = L2.wipe σ0 vs := by
          intro us
          induction us with
          | nil => intro σ0 _; rfl
          | cons u us ih =>
            intro σ0 hu
            show L2.wipe ((L2.wipe σ0 us).set u none) vs = _
            rw [wipe_in (hu u List.mem_cons_self)]
            exact ih σ0 fun w hw => hu w (List.mem_cons_of_mem _ hw)
        intro σ0
        exact gen vs σ0 fun _ z => z
      -- the state within
      let In : Nat → List D → Sto → List V → Ws → Hp → Prop := fun i acc s2 xs ws2 H2 =>
        Dd ∈ ws2.hid ∧ Stp ⟨ws1.own, ws1.hid⟩ H1 ⟨ws2.own, ws2.hid⟩ H2 ∧ Sta K ws2 H2 s2 ∧ H2 Dd = some (.lst xs) ∧ Reps K ws2 (mask ws2 H2) acc xs ∧ i ≤ z.1.length ∧ acc.length ≤ i ∧
          ∃ rest, ys = acc ++ rest ∧ lcL g ft fe z.2 (wipeD ρ vs) (z.1.drop i) s2 = some (rest, s')
      refine ⟨fun i m H2 => m = z.1.length - i ∧ ∃ acc s2 xs ws2, In i acc s2 xs ws2 H2, ⟨_, rfl, [], s1, [], ⟨ws1.own, Dd :: ws1.hid⟩, ?_⟩, ?_⟩
      · have hm : mask ⟨ws1.own, Dd :: ws1.hid⟩ (upd H1 Dd (.lst [])) = mask ws1 H1 := mask_hide hD
        have hfr := S1.fresh hD
        refine ⟨List.mem_cons_self, ⟨List.prefix_refl _, fun a z => List.mem_cons_of_mem _ z, fun a o e => by rw [hm]; exact e, fun a z => upd_ne fun e => hfr.2 (e ▸ z)⟩, ⟨S1.nd, S1.len, ?_, ?_, ?_⟩, upd_same, rfl, Nat.zero_le _, Nat.le_refl _, ys, rfl, by rw [List.drop_zero]; exact hl⟩
        · intro a z
          rcases List.mem_cons.mp z with e | z
          · rw [e]; exact hfr.1
          · exact S1.dis a z
        · intro a z
          rcases List.mem_cons.mp z with e | z
          · rw [e]; exact ⟨_, upd_same⟩
          · obtain ⟨o, e⟩ := S1.hid a z
            exact ⟨o, by rw [upd_ne (fun (q : a = Dd) => hfr.2 (by rw [← q]; exact z))]; exact e⟩
        · intro l a ds e1 e2
          obtain ⟨xs, k1, k2⟩ := S1.own l a ds e1 e2
          refine ⟨xs, by rw [upd_ne (ne_of_none k1 hD)]; exact k1, ?_⟩
          rw [hm]
          exact Reps.mono (ws := ws1) (ws' := ⟨ws1.own, Dd :: ws1.hid⟩) (List.prefix_refl _) (fun _ _ z => z) ds xs k2
      · rintro i m H2 ⟨rfl, acc, s2, xs, ws2, hd, t2, S2, hDd, rx, hi', hacc, rest, hys, hl2⟩
        by_cases hlt : i < z.1.length
        · rw [List.drop_eq_getElem_cons hlt] at hl2
          unfold lcL at hl2
          split at hl2
          · rename_i hck
            split at hl2
            · rename_i ρ1 hg1
              obtain ⟨go, yl⟩ := wk.step i z.1[i] ws2 H2 s2 t2 S2 hck (List.getElem?_eq_getElem hlt)
              refine .inr ⟨go, fun H5 => ∃ acc s2 xs ws2, In (i + 1) acc s2 xs ws2 H5, fun H5 h5 => ⟨_, by omega, rfl, h5⟩, fun x H3 y => ?_⟩
              obtain ⟨t3, S3, r3⟩ := yl x H3 y
              have NE : EnvOk K ws2 H3 (L2.wipe σ vs) (wipeD ρ vs) := by
                have N1 := (N.wipe vs).stp t1
                refine ⟨N1.len, fun j e hj => ?_⟩
                obtain ⟨v, e1, e2⟩ := N1.at_ j e hj
                exact ⟨v, e1, (e2.stp t2).stp t3⟩
              refine hg ws2 H3 _ _ _ x ρ1 _ NE r3 hg1 fun σ2 N2 w2 => ⟨by rw [w2 vs hv, hwipe], ?_⟩
              split at hl2
              · rename_i s3 hft
                refine ht ws2 H3 s2 σ2 ρ1 true s3 _ S3 N2 hft fun ws3 H4 t4 S4 => ?_
                rw [if_pos rfl]
                split at hl2
                · rename_i y' s4 hfe
                  refine he ws3 H4 s3 σ2 ρ1 y' s4 _ S4 (N2.stp t4) hfe fun v ws4 H6 t5 S5 r5 => ?_
                  split at hl2
                  · rename_i zs s5 hl3
                    cases hl2
                    have tt := (t3.trans t4).trans t5
                    have hd4 : Dd ∈ ws4.hid := tt.hid _ hd
                    have hD4 : H6 Dd = some (.lst xs) := (tt.hk Dd hd).trans hDd
                    have hm : mask ws4 (upd H6 Dd (.lst (xs ++ [v]))) = mask ws4 H6 := by
                      funext a
                      unfold mask
                      by_cases ha : a = Dd
                      · subst ha
                        rw [if_pos (.inr hd4), if_pos (.inr hd4)]
                      · rw [upd_ne ha]
                    have hz := rx.length
                    refine ⟨xs, hD4, lim_lt (by omega), acc ++ [y'], s4, xs ++ [v], ws4, hd4, ⟨t2.pre.trans tt.pre, fun a q => tt.hid a (t2.hid a q), fun a o q => by rw [hm]; exact tt.fz a o (t2.fz a o q), fun a q => ?_⟩, ⟨S5.nd, S5.len, S5.dis, ?_, ?_⟩, upd_same, ?_, hlt, ?_, zs, ?_, hl3⟩
                    · have hne : a ≠ Dd := fun e => by
                        subst e
                        obtain ⟨o, e⟩ := S1.hid _ q
                        rw [hD] at e
                        cases e
                      rw [upd_ne hne, tt.hk a (t2.hid a q)]
                      exact t2.hk a q
                    · intro a q
                      by_cases ha : a = Dd
                      · subst ha; exact ⟨_, upd_same⟩
                      · rw [upd_ne ha]; exact S5.hid a q
                    · intro l a ds e1 e2
                      obtain ⟨us, k1, k2⟩ := S5.own l a ds e1 e2
                      have hne : a ≠ Dd := fun e => S5.dis _ hd4 (by rw [← e]; exact List.mem_of_getElem? e1)
                      exact ⟨us, by rw [upd_ne hne]; exact k1, by rw [hm]; exact k2⟩
                    · rw [hm]
                      exact (Reps.mono tt.pre tt.fz acc xs rx).append ⟨v, [], rfl, r5, rfl⟩
                    · rw [List.length_append, List.length_singleton]; omega
                    · rw [hys, List.append_assoc]; rfl
                  · cases hl2
                · cases hl2
              · rename_i s3 hft
                refine ht ws2 H3 s2 σ2 ρ1 false s3 _ S3 N2 hft fun ws3 H4 t4 S4 => ?_
                rw [if_neg Bool.false_ne_true]
                have tt := t3.trans t4
                exact ⟨acc, s3, xs, ws3, tt.hid _ hd, ⟨t2.pre.trans tt.pre, fun a q => tt.hid a (t2.hid a q), fun a o q => tt.fz a o (t2.fz a o q), fun a q => (tt.hk a (t2.hid a q)).trans (t2.hk a q)⟩, S4, (tt.hk Dd hd).trans hDd, Reps.mono tt.pre tt.fz acc xs rx, hlt, by omega, rest, hys, hl2⟩
              · cases hl2
            · cases hl2
          · cases hl2
        · have e : i = z.1.length := by omega
          subst e
          rw [List.drop_length] at hl2
          unfold lcL at hl2
          split at hl2
          · rename_i hck
            cases hl2
            refine .inl ⟨wk.stop ws2 H2 s' t2 S2 hck, ?_⟩
            -- the new list is frozen from now on
            have hdo : Dd ∉ ws2.own := S2.dis _ hd
            let ws3 : Ws := ⟨ws2.own, ws2.hid.filter fun a => decide (a ≠ Dd)⟩
            have hin : ∀ a, a ∈ ws3.hid → a ∈ ws2.hid ∧ a ≠ Dd := fun a q => by
              obtain ⟨q1, q2⟩ := List.mem_filter.mp q
              exact ⟨q1, of_decide_eq_true q2⟩
            have hmono : ∀ a o, mask ws2 H2 a = some o → mask ws3 H2 a = some o := fun a o q => by
              obtain ⟨n, q⟩ := mask_some q
              rw [mask_of (ws := ws3) ⟨n.1, fun w => n.2 (hin a w).1⟩]
              exact q
            have hDn : ∀ a ∈ ws1.hid, a ≠ Dd := fun a q e => by
              subst e
              obtain ⟨o, e⟩ := S1.hid _ q
              rw [hD] at e
              cases e
            refine q (.ref Dd) ws3 H2 (t1.trans ⟨t2.pre, fun a w => List.mem_filter.mpr ⟨t2.hid a w, decide_eq_true (hDn a w)⟩, fun a o w => hmono a o (t2.fz a o w), t2.hk⟩) ⟨S2.nd, S2.len, fun a w => S2.dis a (hin a w).1, fun a w => S2.hid a (hin a w).1, fun l a ds e1 e2 => ?_⟩ ⟨Dd, xs, rfl, ?_, ?_⟩
            · obtain ⟨us, k1, k2⟩ := S2.own l a ds e1 e2
              exact ⟨us, k1, Reps.mono (ws := ws2) (ws' := ws3) (List.prefix_refl _) hmono ds us k2⟩
            · rw [mask_of (ws := ws3) ⟨hdo, fun w => (hin _ w).2 rfl⟩]
              exact hDd
            · rw [hys, List.append_nil]
              exact Reps.mono (ws := ws2) (ws' := ws3) (List.prefix_refl _) hmono acc xs rx
          · cases hl2
    · cases h
  · cases h
/-! ### one reading for all of a block's contexts -/
theorem unify_E {ι : Type} {Y : ι → Cx} {K : PySem.W.Frag} {e : Expr} {f : M D} (hK : ∀ p, (Y p).K = K) (h : ∀ p, DE (Y p) e f) : ∃ te, (∀ p, PE (Y p) e te) ∧ EvS K te f := by
  have h' : ∀ p, ∃ te, PE (Y p) e te ∧ EvS K te f := fun p => by
    have := (h p).ex
    rw [hK p] at this
    exact this
  have hT := fun p => Classical.choose_spec (h' p)
  exact ⟨fun σ H Q => ∀ p, Classical.choose (h' p) σ H Q, fun p => ⟨fun pins s σ H Q I hw => (hT p).1.run pins s σ H Q I (hw p)⟩, fun ws H s σ ρ d s' Q S N h1 q p => (hT p).2 ws H s σ ρ d s' Q S N h1 q⟩
theorem unify_T {ι : Type} {Y : ι → Cx} {K : PySem.W.Frag} {es : List Expr} {f : M Bool} (hK : ∀ p, (Y p).K = K) (h : ∀ p, DTs (Y p) es f) : ∃ te, (∀ p, PTs (Y p) es te) ∧ EvT K te f := by
  have h' : ∀ p, ∃ te, PTs (Y p) es te ∧ EvT K te f := fun p => by
    have := (h p).ex
    rw [hK p] at this
    exact this
  have hT := fun p => Classical.choose_spec (h' p)
  exact ⟨fun σ H Q => ∀ p, Classical.choose (h' p) σ H Q, fun p => ⟨fun pins s σ H Q I hw => (hT p).1.run pins s σ H Q I (hw p)⟩, fun ws H s σ ρ d s' Q S N h1 q p => (hT p).2 ws H s σ ρ d s' Q S N h1 q⟩
def GOk (K : PySem.W.Frag) (t : TG) (g : D → Rho → Option Rho) (is : List Nat) : Prop := ∀ ws H σ ρ d v ρ' Q, EnvOk K ws H σ ρ → Rep K ws (mask ws H) d v → g d ρ = some ρ' → (∀ σ', EnvOk K ws H σ' ρ' → (∀ vs, (∀ i ∈ is, i ∈ vs) → L2.wipe σ' vs = L2.wipe σ vs) → Q σ' H) → t v σ H Q
theorem unify_G {ι : Type} {Y : ι → Cx} {K : PySem.W.Frag} {e : Expr} {g : D → Rho → Option Rho} {is : List Nat} (hK : ∀ p, (Y p).K = K) (h : ∀ p, DG (Y p) e g is) : ∃ t, (∀ p, PG (Y p) e t) ∧ GOk K t g is := by
  have h' : ∀ p, ∃ t, PG (Y p) e t ∧ GOk K t g is := fun p => by
    have : ∃ t, PG (Y p) e t ∧ GOk (Y p).K t g is := (h p).ex
    rw [hK p] at this
    exact this
  have hT := fun p => Classical.choose_spec (h' p)
  exact ⟨fun v σ H Q => ∀ p, Classical.choose (h' p) v σ H Q, fun p => ⟨fun pins s σ H v u Q I r hw => (hT p).1.run pins s σ H v u Q I r (hw p)⟩, fun ws H σ ρ d v ρ' Q N r h1 q p => (hT p).2 ws H σ ρ d v ρ' Q N r h1 q⟩
structure Blk where
  s : Shared
  H : Hp
  C : Addr
  cl : List (Str × Addr)
  fp : List Addr
abbrev Blk.cx (X : Cx) (scope : Scope) (b : Blk) : Cx := X.blk b.s b.H scope (compEnvC scope b.cl b.C X.env) b.fp
section
variable {X : Cx} {elt tg iter : Expr} {ifs : List Expr} {scope : Scope} {own : List (Str × Nat)} {pos spos py : Pos} {fi : M Src} {g : D → Rho → Option Rho} {ft : M Bool} {fe : M D} {is : List Nat}
theorem de_lc (hc : X.calm = true) (hN : X.N.Nodup) (hi : DI X tg iter fi) (ok : BlkOk X.N X.env.scope scope own) (hv : ∀ i ∈ is, i ∈ own.map (·.2))
    (hg : ∀ b : Blk, DG (b.cx X scope) tg g is) (ht : ∀ b : Blk, DTs (b.cx X scope) ifs ft) (he : ∀ b : Blk, DE (b.cx X scope) elt fe)
    (hs : ∀ x, foldedSetIterable iter X.env x = pure x := by intro _; rfl) : DE X (.ListComp elt [⟨tg, iter, ifs, 0⟩] scope pos) (fLc fi g ft fe (own.map (·.2))) :=
  let ⟨_, pi, ei⟩ := hi.ex
  let ⟨_, pg, eg⟩ := unify_G (K := X.K) (Y := fun b : Blk => b.cx X scope) (fun _ => rfl) hg
  let ⟨_, pt, et⟩ := unify_T (K := X.K) (Y := fun b : Blk => b.cx X scope) (fun _ => rfl) ht
  let ⟨_, pe, ee⟩ := unify_E (K := X.K) (Y := fun b : Blk => b.cx X scope) (fun _ => rfl) he
  ⟨_, pe_lc hc hN pi ok (fun s H C cl fp => pg ⟨s, H, C, cl, fp⟩) (fun s H C cl fp => pt ⟨s, H, C, cl, fp⟩) (fun s H C cl fp => pe ⟨s, H, C, cl, fp⟩) hs, ev_lc ei eg hv et ee⟩

/-! ### statements -/
inductive Out where
  | nx (ρ : Rho) (s : Sto) | rt (d : D) (s : Sto) | bk (ρ : Rho) (s : Sto) | ct (ρ : Rho) (s : Sto)
abbrev MS := Rho → Sto → Option Out
def EndsOk (K : PySem.W.Frag) (ws : Ws) (H : Hp) (E : Ends) : Out → Prop
  | .nx ρ s => ∀ σ ws' H', Stp ws H ws' H' → Sta K ws' H' s → EnvOk K ws' H' σ ρ → E.nx σ H'
  | .rt d s => ∀ v ws' H', Stp ws H ws' H' → Sta K ws' H' s → Rep K ws' (mask ws' H') d v → E.rt v H'
  | .bk ρ s => ∀ σ ws' H', Stp ws H ws' H' → Sta K ws' H' s → EnvOk K ws' H' σ ρ → E.bk σ H'
  | .ct ρ s => ∀ σ ws' H', Stp ws H ws' H' → Sta K ws' H' s → EnvOk K ws' H' σ ρ → E.ct σ H'
theorem EndsOk.stp {K : PySem.W.Frag} {ws ws1 : Ws} {H H1 : Hp} {E : Ends} {o : Out} (t : Stp ws H ws1 H1) (h : EndsOk K ws H E o) : EndsOk K ws1 H1 E o := by
  cases o with
  | nx ρ s => exact fun σ ws' H' t' => h σ ws' H' (t.trans t')
  | rt d s => exact fun v ws' H' t' => h v ws' H' (t.trans t')
  | bk ρ s => exact fun σ ws' H' t' => h σ ws' H' (t.trans t')
  | ct ρ s => exact fun σ ws' H' t' => h σ ws' H' (t.trans t')
def EvSt (K : PySem.W.Frag) (t : TS) (f : MS) : Prop := ∀ (ws : Ws) (H : Hp) (s : Sto) (σ : L2.St) (ρ : Rho) (o : Out) (E : Ends), Sta K ws H s → EnvOk K ws H σ ρ → f ρ s = some o → EndsOk K ws H E o → t E σ H
structure DS (X : Cx) (st : Stmt) (f : MS) : Prop where
  ex : ∃ t, PS X st t ∧ EvSt X.K t f
structure DSs (X : Cx) (st : List Stmt) (f : MS) : Prop where
  ex : ∃ t, PSs X st t ∧ EvSt X.K t f
def fNx : MS := fun ρ s => some (.nx ρ s)
def fSeq (f g : MS) : MS := fun ρ s => match f ρ s with
  | some (.nx ρ1 s1) => g ρ1 s1
  | r => r
/-- behind a value -/
def bndS {α : Type} (f : M α) (k : α → MS) : MS := fun ρ s => match f ρ s with
  | some (x, s1) => k x ρ s1
  | none => none
theorem bndS_some {α : Type} {f : M α} {k : α → MS} {ρ : Rho} {s : Sto} {o : Out} (h : bndS f k ρ s = some o) : ∃ x s1, f ρ s = some (x, s1) ∧ k x ρ s1 = some o := by
  unfold bndS at h
  split at h
  · exact ⟨_, _, by assumption, h⟩
  · cases h
variable {st : Stmt} {sts a b body : List Stmt} {f f1 f2 : MS} {e c : Expr} {fv : M D} {t : M Bool}
theorem dss_nil : DSs X [] fNx := ⟨_, pss_nil, fun ws H s σ ρ o E S N h q => by
  cases h
  exact q σ ws H (Stp.refl _ _) S N⟩
theorem dss_cons (h1 : DS X st f1) (h2 : DSs X sts f2) : DSs X (st :: sts) (fSeq f1 f2) :=
  let ⟨_, pa, ea⟩ := h1.ex
  let ⟨_, pb, eb⟩ := h2.ex
  ⟨_, pss_cons pa pb, fun ws H s σ ρ o E S N h q => by
    unfold fSeq at h
    split at h
    · rename_i ρ1 s1 h3
      refine ea ws H s σ ρ (.nx ρ1 s1) _ S N h3 fun σ1 ws1 H1 t1 S1 N1 => ?_
      exact eb ws1 H1 s1 σ1 ρ1 o E S1 N1 h (q.stp t1)
    · rename_i r hr
      cases o with
      | nx ρ1 s1 => exact absurd h (hr _ _)
      | rt d s1 => exact ea ws H s σ ρ _ _ S N h q
      | bk ρ1 s1 => exact ea ws H s σ ρ _ _ S N h q
      | ct ρ1 s1 => exact ea ws H s σ ρ _ _ S N h q⟩
theorem dss_one (h1 : DS X st f1) : DSs X [st] f1 := let ⟨_, pa, ea⟩ := h1.ex; ⟨_, pss_one pa, ea⟩
theorem ds_pass : DS X (.Pass pos) fNx := ⟨_, ps_pass, fun ws H s σ ρ o E S N h q => by
  cases h
  exact q σ ws H (Stp.refl _ _) S N⟩
def fBk : MS := fun ρ s => some (.bk ρ s)
def fCt : MS := fun ρ s => some (.ct ρ s)
theorem ds_break : DS X (.Break pos) fBk := ⟨_, ps_break, fun ws H s σ ρ o E S N h q => by
  cases h
  exact q σ ws H (Stp.refl _ _) S N⟩
theorem ds_continue : DS X (.Continue pos) fCt := ⟨_, ps_continue, fun ws H s σ ρ o E S N h q => by
  cases h
  exact q σ ws H (Stp.refl _ _) S N⟩
def fRet (f : M D) : MS := bndS f fun x _ s => some (.rt x s)
theorem ds_ret (h : DE X e fv) : DS X (.Return (some e) pos) (fRet fv) :=
  let ⟨_, pa, ea⟩ := h.ex
  ⟨_, ps_ret pa, fun ws H s σ ρ o E S N h q => by
    obtain ⟨x, s1, h1, h⟩ := bndS_some h
    cases h
    exact ea ws H s σ ρ x s1 _ S N h1 q⟩
def fRetN : MS := fun _ s => some (.rt .non s)
theorem ds_retN : DS X (.Return none pos) fRetN := ⟨_, ps_retN, fun ws H s σ ρ o E S N h q => by
  cases h
  exact q _ ws H (Stp.refl _ _) S rfl⟩
def fIfS (t : M Bool) (f1 f2 : MS) : MS := bndS t fun b => if b = true then f1 else f2
theorem ds_if (hc : DT X c t) (ha : DSs X a f1) (hb : DSs X b f2) : DS X (.If c a b pos) (fIfS t f1 f2) :=
  let ⟨_, pc, ec⟩ := hc.ex
  let ⟨_, pa, ea⟩ := ha.ex
  let ⟨_, pb, eb⟩ := hb.ex
  ⟨_, ps_if pc pa pb, fun ws H s σ ρ o E S N h q => by
    obtain ⟨x, s1, h1, h⟩ := bndS_some h
    refine ec ws H s σ ρ x s1 _ S N h1 fun ws1 H1 t1 S1 => ?_
    split at h
    · rename_i hx
      rw [if_pos hx]
      exact ea ws1 H1 s1 σ ρ o E S1 (N.stp t1) h (q.stp t1)
    · rename_i hx
      rw [if_neg hx]
      exact eb ws1 H1 s1 σ ρ o E S1 (N.stp t1) h (q.stp t1)⟩
/-- an expression alone -/
def fDrop (f : M D) : MS := bndS f fun _ ρ s => some (.nx ρ s)
theorem ds_expr (h : DE X e fv) (hs : swapsWith e none pos.line X.env = pure false := by rfl) : DS X (.Expr e pos) (fDrop fv) :=
  let ⟨_, pa, ea⟩ := h.ex
  ⟨_, ps_expr pa hs, fun ws H s σ ρ o E S N h q => by
    obtain ⟨x, s1, h1, h⟩ := bndS_some h
    cases h
    exact ea ws H s σ ρ x s1 _ S N h1 fun v ws1 H1 t1 S1 r1 => q σ ws1 H1 t1 S1 (N.stp t1)⟩
/-- target = value -/
def fAsg (f : M D) (g : D → Rho → Option Rho) : MS := bndS f fun x ρ s => (g x ρ).map fun ρ1 => .nx ρ1 s
theorem ev_asg {K : PySem.W.Frag} {te : TE} {tg : TG} (ea : EvS K te fv)
    (eg : ∀ ws H σ ρ d v ρ' Q, EnvOk K ws H σ ρ → Rep K ws (mask ws H) d v → g d ρ = some ρ' → (∀ σ', EnvOk K ws H σ' ρ' → (∀ vs, (∀ i ∈ is, i ∈ vs) → L2.wipe σ' vs = L2.wipe σ vs) → Q σ' H) → tg v σ H Q) : EvSt K (tAsg te tg) (fAsg fv g) := fun ws H s σ ρ o E S N h q => by
  obtain ⟨x, s1, h1, h⟩ := bndS_some h
  obtain ⟨ρ1, h2, rfl⟩ := Option.map_eq_some_iff.mp h
  refine ea ws H s σ ρ x s1 _ S N h1 fun v ws1 H1 t1 S1 r1 => ?_
  exact eg ws1 H1 σ ρ x v ρ1 _ (N.stp t1) r1 h2 fun σ1 N1 _ => q σ1 ws1 H1 t1 S1 N1
theorem ds_set (i : Nat) {x : Str} {pos' : Pos} (hN : X.N.Nodup) (h : DE X e fv) (hi : X.N[i]? = some x := by rfl) (hx : Loc X.env.scope x := by first | exact Or.inl rfl | exact Or.inr rfl) (hs : swapsWith e (some (.Name x pos')) pos.line X.env = pure false := by rfl)
    (hf : X.fn x = true ∨ X.env.scope.names.lookup x = some .local := by first | exact .inl rfl | exact .inr rfl | assumption) : DS X (.Assign [.Name x pos'] e pos) (fAsg fv (gNm i)) :=
  let ⟨_, pa, ea⟩ := h.ex
  ⟨_, ps_set hN hi hx pa hs hf, ev_asg (is := [i]) ea fun ws H σ ρ d v ρ' Q N r h q => by
    cases h
    exact q _ (N.set r) fun vs hv => wipe_in (hv i (List.mem_singleton.mpr rfl))⟩
theorem ds_asg {tg : Expr} (hg : DG X tg g is) (h : DE X e fv) (hs : swapsWithSole [tg] e pos.line X.env = pure false := by rfl) (hw : swappedStores [tg] e X.env = pure none := by rfl)
    (h1 : (assignEach [tg] X.env).map (·.2) = [assign tg X.env] := by rfl) : DS X (.Assign [tg] e pos) (fAsg fv g) :=
  let ⟨_, pa, ea⟩ := h.ex
  let ⟨_, pg, eg⟩ := hg.ex
  ⟨_, ps_asg pa pg hs hw h1, ev_asg ea eg⟩
/-- name = [..] -/
theorem ds_setLc (j : Nat) {y : Str} (hc : X.calm = true) (hN : X.N.Nodup) (hi : DI X tg iter fi) (ok : BlkOk X.N X.env.scope scope own) (hv : ∀ i ∈ is, i ∈ own.map (·.2))
    (hg : ∀ b : Blk, DG (b.cx X scope) tg g is) (ht : ∀ b : Blk, DTs (b.cx X scope) ifs ft) (he : ∀ b : Blk, DE (b.cx X scope) elt fe)
    (hsw : swapsWith (.ListComp elt [⟨tg, iter, ifs, 0⟩] scope pos) (some (.Name y py)) spos.line X.env = pure true)
    (hy : X.N[j]? = some y := by rfl) (hyl : X.env.scope.names.lookup y = some .local := by rfl)
    (hs : ∀ x, foldedSetIterable iter X.env x = pure x := by intro _; rfl) : DS X (.Assign [.Name y py] (.ListComp elt [⟨tg, iter, ifs, 0⟩] scope pos) spos) (fAsg (fLc fi g ft fe (own.map (·.2))) (gNm j)) :=
  let ⟨_, pi, ei⟩ := hi.ex
  let ⟨_, pg, eg⟩ := unify_G (K := X.K) (Y := fun b : Blk => b.cx X scope) (fun _ => rfl) hg
  let ⟨_, pt, et⟩ := unify_T (K := X.K) (Y := fun b : Blk => b.cx X scope) (fun _ => rfl) ht
  let ⟨_, pe, ee⟩ := unify_E (K := X.K) (Y := fun b : Blk => b.cx X scope) (fun _ => rfl) he
  ⟨_, ps_setLc hc hN hy hyl hsw pi ok (fun s H C cl fp => pg ⟨s, H, C, cl, fp⟩) (fun s H C cl fp => pt ⟨s, H, C, cl, fp⟩) (fun s H C cl fp => pe ⟨s, H, C, cl, fp⟩) hs,
    ev_asg (is := [j]) (ev_lc ei eg hv et ee) fun ws H σ ρ d v ρ' Q N r h q => by
    cases h
    exact q _ (N.set r) fun vs hv => wipe_in (hv j (List.mem_singleton.mpr rfl))⟩
/-- a, b = x, y -/
def fPar (i j : Nat) (fa : M (List D)) : MS := bndS fa fun xs ρ s => match xs with
  | [x, y] => some (.nx ((ρ.set i (some x)).set j (some y)) s)
  | _ => none
theorem ds_par (i j : Nat) {x y : Str} {a b : Expr} {fa : M (List D)} {px py pt : Pos} {kt k2 pt2} (hc : X.calm = true) (hN : X.N.Nodup) (ha : DA X [a, b] fa) (hi : X.N[i]? = some x := by rfl) (hj : X.N[j]? = some y := by rfl) (hij : i ≠ j := by decide)
    (hx : X.env.scope.names.lookup x = some .local := by rfl) (hy : X.env.scope.names.lookup y = some .local := by rfl)
    (hw : swappedStores [.Tuple [.Name x px, .Name y py] kt pt] (.Tuple [a, b] k2 pt2) X.env = pure (some [x, y]) := by rfl)
    (hs : swapsWithSole [.Tuple [.Name x px, .Name y py] kt pt] (.Tuple [a, b] k2 pt2) pos.line X.env = pure false := by rfl) :
    DS X (.Assign [.Tuple [.Name x px, .Name y py] kt pt] (.Tuple [a, b] k2 pt2) pos) (fPar i j fa) :=
  let ⟨_, pa, ea⟩ := ha.ex
  ⟨_, ps_par hc hN hi hj hij hx hy pa hw hs, fun ws H s σ ρ o E S N h q => by
    obtain ⟨xs, s1, h1, h⟩ := bndS_some h
    split at h
    · cases h
      refine ea ws H s σ ρ _ s1 _ S N h1 fun vs ws1 H1 t1 S1 r1 => ?_
      obtain ⟨v, r, rfl, k1, w, r', rfl, k2, rfl⟩ := r1
      exact ⟨v, w, rfl, q _ ws1 H1 t1 S1 (((N.stp t1).set k1).set k2)⟩
    · cases h⟩
/-- name op= e -/
def fAug (i : Nat) (gg : G2) (f : M D) : MS := fun ρ s => match ρ[i]? with
  | some (some x) => bndS f (fun y ρ s => (gg s x y).map fun z => .nx (ρ.set i (some z)) s) ρ s
  | _ => none
theorem ds_aug (i : Nat) {x : Str} {op : Operator} {r : R2} {gg : G2} {pos' : Pos} (hN : X.N.Nodup) (hr : OpR X (inplaceOp op) r) (ho : OpS X.K r gg) (h : DE X e fv) (hi : X.N[i]? = some x := by rfl) (hx : Loc X.env.scope x := by first | exact Or.inl rfl | exact Or.inr rfl)
    (hf : X.fn x = true ∨ X.env.scope.names.lookup x = some .local := by first | exact .inl rfl | exact .inr rfl | assumption) : DS X (.AugAssign (.Name x pos') op e pos) (fAug i gg fv) :=
  let ⟨_, pa, ea⟩ := h.ex
  ⟨_, ps_aug (ti := r) hN hi hx pa (fun pins s σ H x y v u Q I r1 r2 h => hr pins s σ H x y v u Q I r1 r2 h) hf, fun ws H s σ ρ o E S N h q => by
    unfold fAug at h
    split at h
    · rename_i d hd
      obtain ⟨y, s1, h1, h⟩ := bndS_some h
      obtain ⟨z, h2, rfl⟩ := Option.map_eq_some_iff.mp h
      obtain ⟨v, e1, r1⟩ := N.at_ i _ hd
      refine ⟨v, e1, ea ws H s σ ρ y s1 _ S N h1 fun u ws1 H1 t1 S1 r2 => ?_⟩
      exact ho ws1 H1 s1 _ y z v u _ S1 (r1.stp t1) r2 h2 fun w ws2 H2 t2 S2 r3 => q _ ws2 H2 (t1.trans t2) S2 (((N.stp t1).stp t2).set r3)
    · cases h⟩
/-- while, at most so many turns -/
def fWhile (ft : M Bool) (fb : MS) : Nat → MS
  | 0 => fun _ _ => none
  | n + 1 => fun ρ s => match ft ρ s with
    | some (true, s1) => match fb ρ s1 with
      | some (.nx ρ2 s2) => fWhile ft fb n ρ2 s2
      | some (.ct ρ2 s2) => fWhile ft fb n ρ2 s2
      | some (.bk ρ2 s2) => some (.nx ρ2 s2)
      | some (.rt d s2) => some (.rt d s2)
      | none => none
    | some (false, s1) => some (.nx ρ s1)
    | none => none
theorem ds_while (n : Nat) {fb : MS} (hp : PassesOwn (model X.prog X.w) X.A X.env X.xe) (hc : DT X c t) (hb : DSs X body fb) : DS X (.While c body [] pos) (fWhile t fb n) :=
  let ⟨_, pc, ec⟩ := hc.ex
  let ⟨_, pb, eb⟩ := hb.ex
  ⟨_, ps_while hp pc pb, fun ws H s σ ρ o E S N h q => by
    refine ⟨fun m σ1 H1 => ∃ ws1 ρ1 s1, Stp ws H ws1 H1 ∧ Sta X.K ws1 H1 s1 ∧ EnvOk X.K ws1 H1 σ1 ρ1 ∧ fWhile t fb m ρ1 s1 = some o, ⟨n, ws, ρ, s, Stp.refl _ _, S, N, h⟩, ?_⟩
    rintro m σ1 H1 ⟨ws1, ρ1, s1, t1, S1, N1, h1⟩
    cases m with
    | zero => cases h1
    | succ m =>
      unfold fWhile at h1
      split at h1
      · rename_i s2 h2
        refine ec ws1 H1 s1 σ1 ρ1 true s2 _ S1 N1 h2 fun ws2 H2 t2 S2 => ?_
        rw [if_pos rfl]
        refine ⟨fun σ' H' => ∃ ws1 ρ1 s1, Stp ws H ws1 H' ∧ Sta X.K ws1 H' s1 ∧ EnvOk X.K ws1 H' σ' ρ1 ∧ fWhile t fb m ρ1 s1 = some o, fun σ' H' z => ⟨m, Nat.lt_succ_self _, z⟩, ?_⟩
        have t12 := t1.trans t2
        split at h1
        · rename_i ρ3 s3 h3
          exact eb ws2 H2 s2 σ1 ρ1 _ _ S2 (N1.stp t2) h3 fun σ' ws' H' t' S' N' => ⟨ws', ρ3, s3, t12.trans t', S', N', h1⟩
        · rename_i ρ3 s3 h3
          exact eb ws2 H2 s2 σ1 ρ1 _ _ S2 (N1.stp t2) h3 fun σ' ws' H' t' S' N' => ⟨ws', ρ3, s3, t12.trans t', S', N', h1⟩
        · rename_i ρ3 s3 h3
          cases h1
          exact eb ws2 H2 s2 σ1 ρ1 _ _ S2 (N1.stp t2) h3 (q.stp t12)
        · rename_i d s3 h3
          cases h1
          exact eb ws2 H2 s2 σ1 ρ1 _ _ S2 (N1.stp t2) h3 (q.stp t12)
        · cases h1
      · rename_i s2 h2
        cases h1
        refine ec ws1 H1 s1 σ1 ρ1 false s2 _ S1 N1 h2 fun ws2 H2 t2 S2 => ?_
        rw [if_neg Bool.false_ne_true]
        exact q σ1 ws2 H2 (t1.trans t2) S2 (N1.stp t2)
      · cases h1⟩
/-- for -/
def forL (g : D → Rho → Option Rho) (fb : MS) (ck : Option (Nat × List D)) : List D → MS
  | [] => fun ρ s => if chk ck s = true then some (.nx ρ s) else none
  | d :: ds => fun ρ s => if chk ck s = true then match g d ρ with
    | some ρ1 => match fb ρ1 s with
      | some (.nx ρ2 s2) => forL g fb ck ds ρ2 s2
      | some (.ct ρ2 s2) => forL g fb ck ds ρ2 s2
      | some (.bk ρ2 s2) => some (.nx ρ2 s2)
      | some (.rt d s2) => some (.rt d s2)
      | none => none
    | none => none
    else none
def fFor (fi : M Src) (g : D → Rho → Option Rho) (fb : MS) : MS := bndS fi fun z => forL g fb z.2 z.1
theorem ds_for {fb : MS} (hp : PassesOwn (model X.prog X.w) X.A X.env X.xe) (hc : X.calm = true) (hi : DI X tg iter fi) (hg : DG X tg g is) (hb : DSs X body fb) (hs : ∀ x, foldedSetIterable iter X.env x = pure x := by intro _; rfl) : DS X (.For tg iter body [] pos) (fFor fi g fb) :=
  let ⟨_, pi, ei⟩ := hi.ex
  let ⟨_, pg, eg⟩ := hg.ex
  let ⟨_, pb, eb⟩ := hb.ex
  ⟨_, ps_for hp hc pi pg pb hs, fun ws H s σ ρ o E S N h q => by
    obtain ⟨z, s0, h0, h⟩ := bndS_some h
    refine ei ws H s σ ρ z s0 _ S N h0 fun J ws0 H0 t0 S0 wk => ?_
    refine ⟨fun i m σ1 H1 => m = z.1.length - i ∧ i ≤ z.1.length ∧ ∃ ws1 ρ1 s1, Stp ws0 H0 ws1 H1 ∧ Sta X.K ws1 H1 s1 ∧ EnvOk X.K ws1 H1 σ1 ρ1 ∧ forL g fb z.2 (z.1.drop i) ρ1 s1 = some o, ⟨_, rfl, Nat.zero_le _, ws0, ρ, s0, Stp.refl _ _, S0, N.stp t0, by rw [List.drop_zero]; exact h⟩, ?_⟩
    rintro i m σ1 H1 ⟨rfl, hle, ws1, ρ1, s1, t1, S1, N1, h1⟩
    by_cases hlt : i < z.1.length
    · rw [List.drop_eq_getElem_cons hlt] at h1
      unfold forL at h1
      split at h1
      · rename_i hck
        split at h1
        · rename_i ρ2 hg2
          obtain ⟨go, yl⟩ := wk.step i z.1[i] ws1 H1 s1 t1 S1 hck (List.getElem?_eq_getElem hlt)
          refine .inr ⟨go, fun σ' H' => ∃ ws1 ρ1 s1, Stp ws0 H0 ws1 H' ∧ Sta X.K ws1 H' s1 ∧ EnvOk X.K ws1 H' σ' ρ1 ∧ forL g fb z.2 (z.1.drop (i + 1)) ρ1 s1 = some o, fun σ' H' w => ⟨_, by omega, rfl, hlt, w⟩, fun x H2 y => ?_⟩
          obtain ⟨t2, S2, r2⟩ := yl x H2 y
          refine eg ws1 H2 σ1 ρ1 _ x ρ2 _ (N1.stp t2) r2 hg2 fun σ2 N2 _ => ?_
          have t12 := t1.trans t2
          split at h1
          · rename_i ρ3 s3 h3
            exact eb ws1 H2 s1 σ2 ρ2 _ _ S2 N2 h3 fun σ' ws' H' t' S' N' => ⟨ws', ρ3, s3, t12.trans t', S', N', h1⟩
          · rename_i ρ3 s3 h3
            exact eb ws1 H2 s1 σ2 ρ2 _ _ S2 N2 h3 fun σ' ws' H' t' S' N' => ⟨ws', ρ3, s3, t12.trans t', S', N', h1⟩
          · rename_i ρ3 s3 h3
            cases h1
            exact eb ws1 H2 s1 σ2 ρ2 _ _ S2 N2 h3 (q.stp (t0.trans t12))
          · rename_i d s3 h3
            cases h1
            exact eb ws1 H2 s1 σ2 ρ2 _ _ S2 N2 h3 (q.stp (t0.trans t12))
          · cases h1
        · cases h1
      · cases h1
    · have e : i = z.1.length := by omega
      subst e
      rw [List.drop_length] at h1
      unfold forL at h1
      split at h1
      · rename_i hck
        cases h1
        exact .inl ⟨wk.stop ws1 H1 s1 t1 S1 hck, q σ1 ws1 H1 (t0.trans t1) S1 N1⟩
      · cases h1⟩
/-- o[i] = v, o owned -/
def putD (s : Sto) (o i v : D) : Option Sto := match o, i with
  | .own l, .int k => match s[l]? with
    | some ds => match ixN ds.length k with
      | some j => some (s.set l (ds.set j v))
      | none => none
    | none => none
  | _, _ => none
def fSub (fv fo fi : M D) : MS := bndS fv fun v => bndS fo fun o => bndS fi fun i ρ s => (putD s o i v).map fun s1 => .nx ρ s1
theorem ds_sub {o i : Expr} {fo fi : M D} {pos' : Pos} (h : DE X e fv) (ho : DE X o fo) (hi : DE X i fi) (hs : swapsWithSole [.Subscript o i pos'] e pos.line X.env = pure false := by rfl) (hw : swappedStores [.Subscript o i pos'] e X.env = pure none := by rfl)
    (h1 : (assignEach [.Subscript o i pos'] X.env).map (·.2) = [assign (.Subscript o i pos') X.env] := by rfl)
    (ha : ∀ v, assign (.Subscript o i pos') X.env v = (do
      let ov ← holding [v] (eval o X.env)
      let iv ← holding [v, ov] (eval i X.env)
      standAt pos'
      holding [v, ov, iv] (setItem ov iv v)
      release [v, ov, iv] []) := by intro _; rfl) : DS X (.Assign [.Subscript o i pos'] e pos) (fSub fv fo fi) :=
  let ⟨_, pa, ea⟩ := h.ex
  let ⟨_, po, eo⟩ := ho.ex
  let ⟨_, pi, ei⟩ := hi.ex
  ⟨_, ps_asg pa (pg_sub po pi set_list ha) hs hw h1, fun ws H s σ ρ out E S N h q => by
    obtain ⟨v, s1, k1, h⟩ := bndS_some h
    obtain ⟨od, s2, k2, h⟩ := bndS_some h
    obtain ⟨id', s3, k3, h9⟩ := bndS_some h
    obtain ⟨s4, k4, rfl⟩ := Option.map_eq_some_iff.mp h9
    clear h9 h
    refine ea ws H s σ ρ v s1 _ S N k1 fun vv ws1 H1 t1 S1 r1 => ?_
    refine eo ws1 H1 s1 σ ρ od s2 _ S1 (N.stp t1) k2 fun ov ws2 H2 t2 S2 r2 => ?_
    refine ei ws2 H2 s2 σ ρ id' s3 _ S2 ((N.stp t1).stp t2) k3 fun iv ws3 H3 t3 S3 r3 => ?_
    unfold putD at k4
    split at k4
    · rename_i l k
      split at k4
      · rename_i ds hds
        split at k4
        · rename_i j hj
          cases k4
          obtain ⟨a, ha1, rfl⟩ := r2.stp t3
          cases r3
          obtain ⟨xs, hx, rx⟩ := S3.own l a ds ha1 hds
          have rv := (r1.stp t2).stp t3
          have S4 := S3.put ha1 (rx.set rv j)
          have t4 : Stp ws3 H3 ws3 (upd H3 a (.lst (xs.set j vv))) := S3.stp_put ha1
          exact ⟨a, xs, k, j, rfl, rfl, hx, by rw [← rx.length]; exact hj, q σ ws3 _ (((t1.trans t2).trans t3).trans t4) S4 ((((N.stp t1).stp t2).stp t3).stp t4)⟩
        · cases k4
      · cases k4
    · cases k4⟩
/-- xs.append(y), xs owned -/
def appD (s : Sto) (o v : D) : Option Sto := match o with
  | .own l => match s[l]? with
    | some ds => if ds.length < LIM then some (s.set l (ds ++ [v])) else none
    | none => none
  | _ => none
def fApp (fo fv : M D) : M D := bnd fo fun o => bnd fv fun v => fun _ s => (appD s o v).map fun s1 => (.non, s1)
theorem de_append {o v : Expr} {fo fv : M D} {apos : Pos} (ho : DE X o fo) (hv : DE X v fv)
    (hbase : attributeBase o "append" X.env (eval o X.env) = eval o X.env := by rfl)
    (hfew : ((backTo pos (starEach [v] X.env)).all (fun x => !x.1) && (backToKw pos (keywordEach [] X.env)).all (fun x => x.1.isSome)
      && decide ([v].length + ([] : List Keyword).length + (if ([] : List Keyword).isEmpty then 0 else 1) < 30)) = true := by rfl)
    (hline : (apos.endLine == pos.line) = true := by rfl) (hs : starEach [v] X.env = (false, eval v X.env) :: starEach [] X.env := by rfl) (hplain : (backTo pos (starEach [] X.env)).any (·.1) = false := by rfl) :
    DE X (.Call (.Attribute o "append" apos) [v] [] pos) (fApp fo fv) :=
  let ⟨_, po, eo⟩ := ho.ex
  let ⟨_, pv', ev'⟩ := hv.ex
  ⟨_, pe_bm PySem.F.plainAttrs_list PySem.F.slot_list_append PySem.F.type_list_append mt_append po (pa_cons pv' pa_nil hs) hbase hfew hline hs hplain, fun ws H s σ ρ d s' Q S N h q => by
    obtain ⟨od, s1, k1, h⟩ := bnd_some h
    obtain ⟨vd, s2, k2, h9⟩ := bnd_some h
    obtain ⟨s3, k3, e3⟩ := Option.map_eq_some_iff.mp h9
    cases e3
    clear h9 h
    refine eo ws H s σ ρ od s1 _ S N k1 fun ov ws1 H1 t1 S1 r1 => ?_
    unfold appD at k3
    split at k3
    · rename_i l
      split at k3
      · rename_i ds hds
        split at k3
        · rename_i hlt
          cases k3
          have r1' := r1
          obtain ⟨a, ha1, rfl⟩ := r1'
          have hl : l < s1.length := by rw [← S1.len]; exact (List.getElem?_eq_some_iff.mp ha1).1
          obtain ⟨xs0, hx0, _⟩ := S1.own l a s1[l] ha1 (List.getElem?_eq_getElem hl)
          refine ⟨.inl ⟨rfl, xs0, SqL.of hx0⟩, ?_⟩
          refine ev' ws1 H1 s1 σ ρ vd s2 _ S1 (N.stp t1) k2 fun vv ws2 H2 t2 S2 r2 => ?_
          obtain ⟨a2, ha2, e2⟩ := r1.stp t2
          cases e2
          obtain ⟨xs, hx, rx⟩ := S2.own l a ds ha2 hds
          have S4 := S2.put ha2 (rx.append (ds := ds) (es := [vd]) ⟨vv, [], rfl, r2, rfl⟩)
          have t4 : Stp ws2 H2 ws2 (upd H2 a (.lst (xs ++ [vv]))) := S2.stp_put ha2
          exact ⟨a, xs, vv, rfl, rfl, hx, lim_lt (by rw [← rx.length]; exact hlt), q _ ws2 _ ((t1.trans t2).trans t4) S4 rfl⟩
        · cases k3
      · cases k3
    · cases k3⟩
end

/-! ### a def's value -/
mutual
/-- no owned list of a number from n on -/
def low (n : Nat) : D → Bool
  | .own l => decide (l < n)
  | .lst ds => lows n ds
  | .tup ds => lows n ds
  | .lck ds => lows n ds
  | _ => true
def lows (n : Nat) : List D → Bool
  | [] => true
  | d :: ds => low n d && lows n ds
end
theorem mask_take {ws : Ws} {H : Hp} (n : Nat) : ∀ a o, mask ws H a = some o → mask ⟨ws.own.take n, ws.hid⟩ H a = some o := fun a o h => by
  obtain ⟨k, h⟩ := mask_some h
  rw [mask_of (ws := ⟨ws.own.take n, ws.hid⟩) ⟨fun z => k.1 (List.mem_of_mem_take z), k.2⟩]
  exact h
mutual
theorem low_ok {K : PySem.W.Frag} {ws : Ws} {H : Hp} {n : Nat} : ∀ (d : D) (v : V), Rep K ws (mask ws H) d v → low n d = true → Rep K ⟨ws.own.take n, ws.hid⟩ (mask ⟨ws.own.take n, ws.hid⟩ H) d v
  | .non, _, h, _ => h
  | .bl _, _, h, _ => h
  | .int _, _, h, _ => h
  | .str _, _, h, _ => h
  | .lst ds, _, ⟨a, xs, hv, hs, hr⟩, hl => ⟨a, xs, hv, mask_take n _ _ hs, lows_ok ds xs hr (by simpa only [low] using hl)⟩
  | .lck ds, _, ⟨a, xs, hv, hs, hr⟩, hl => ⟨a, xs, hv, sqL_mono (mask_take n) hs, lows_ok ds xs hr (by simpa only [low] using hl)⟩
  | .tup ds, _, ⟨a, xs, hv, hs, hr⟩, hl => ⟨a, xs, hv, sqT_mono (mask_take n) hs, lows_ok ds xs hr (by simpa only [low] using hl)⟩
  | .own l, _, ⟨a, h, hv⟩, hl => ⟨a, by
      have : l < n := by simpa only [low, decide_eq_true_eq] using hl
      show (ws.own.take n)[l]? = some a
      rw [List.getElem?_take_of_lt this]
      exact h, hv⟩
theorem lows_ok {K : PySem.W.Frag} {ws : Ws} {H : Hp} {n : Nat} : ∀ (ds : List D) (vs : List V), Reps K ws (mask ws H) ds vs → lows n ds = true → Reps K ⟨ws.own.take n, ws.hid⟩ (mask ⟨ws.own.take n, ws.hid⟩ H) ds vs
  | [], _, h, _ => h
  | d :: ds, _, ⟨v, r, hv, h1, h2⟩, hl => by
    have hl' : low n d = true ∧ lows n ds = true := by simpa only [lows, Bool.and_eq_true] using hl
    exact ⟨v, r, hv, low_ok d v h1 hl'.1, lows_ok ds r h2 hl'.2⟩
end
/-- the value that is handed back, the def's own lists forgotten; an owned one of them is frozen -/
def fin (n : Nat) (d : D) (s : Sto) : Option (D × Sto) :=
  if (s.take n).all (lows n) = true then
    match d with
    | .own l => if l < n then some (.own l, s.take n) else match s[l]? with
      | some ds => if lows n ds = true then some (.lst ds, s.take n) else none
      | none => none
    | d => if low n d = true then some (d, s.take n) else none
  else none
theorem fin_ok {K : PySem.W.Frag} {ws ws' : Ws} {H H' : Hp} {s0 s s2 : Sto} {d d2 : D} {v : V} (S0 : Sta K ws H s0) (t : Stp ws H ws' H') (S : Sta K ws' H' s) (r : Rep K ws' (mask ws' H') d v) (h : fin s0.length d s = some (d2, s2)) :
    ∃ ws2, Stp ws H ws2 H' ∧ Sta K ws2 H' s2 ∧ Rep K ws2 (mask ws2 H') d2 v := by
  have hlen : ws.own.length = s0.length := S0.len
  have htk : ws'.own.take s0.length = ws.own := by
    obtain ⟨r, e⟩ := t.pre
    rw [← e, ← hlen, List.take_left]
  unfold fin at h
  split at h
  · rename_i hall
    have Sx : Sta K ⟨ws'.own.take s0.length, ws'.hid⟩ H' (s.take s0.length) := by
      refine ⟨S.nd.sublist (List.take_sublist _ _), by rw [List.length_take, List.length_take, S.len], fun a z q => S.dis a z (List.mem_of_mem_take q), S.hid, fun l a ds e1 e2 => ?_⟩
      have hl : l < s0.length := by
        have := (List.getElem?_eq_some_iff.mp e2).1
        rw [List.length_take] at this
        omega
      have e1' : ws'.own[l]? = some a := by
        have e1 : (ws'.own.take s0.length)[l]? = some a := e1
        rwa [List.getElem?_take_of_lt hl] at e1
      have hm := List.all_eq_true.mp hall ds (List.mem_of_getElem? e2)
      rw [List.getElem?_take_of_lt hl] at e2
      obtain ⟨xs, k1, k2⟩ := S.own l a ds e1' e2
      exact ⟨xs, k1, lows_ok ds xs k2 hm⟩
    have tx : Stp ws H ⟨ws'.own.take s0.length, ws'.hid⟩ H' := ⟨by show ws.own <+: ws'.own.take s0.length; rw [htk]; exact List.prefix_refl _, t.hid, fun a o e => mask_take _ a o (t.fz a o e), t.hk⟩
    split at h
    · rename_i l
      split at h
      · rename_i hl
        cases h
        exact ⟨_, tx, Sx, low_ok (.own l) v r (by simp only [low, decide_eq_true_eq]; exact hl)⟩
      · rename_i hl
        split at h
        · rename_i ds hds
          split at h
          · rename_i hlow
            cases h
            obtain ⟨a, ha, rfl⟩ := r
            obtain ⟨xs, k1, k2⟩ := S.own l a ds ha hds
            refine ⟨_, tx, Sx, a, xs, rfl, ?_, lows_ok ds xs k2 hlow⟩
            rw [mask_of (ws := ⟨ws'.own.take s0.length, ws'.hid⟩) ⟨fun z => ?_, fun z => S.dis a z (List.mem_of_getElem? ha)⟩]
            · exact k1
            · obtain ⟨j, hj, e⟩ := List.getElem_of_mem z
              have hj' : j < s0.length := by
                have := hj
                simp only [List.length_take] at this
                omega
              have e3 : ws'.own[j]? = some a := by
                have : (ws'.own.take s0.length)[j]? = some a := by rw [List.getElem?_eq_getElem hj, e]
                rwa [List.getElem?_take_of_lt hj'] at this
              exact hl (nd_ix S.nd e3 ha ▸ hj')
          · cases h
        · cases h
    · split at h
      · rename_i hlow
        cases h
        exact ⟨_, tx, Sx, low_ok _ v r hlow⟩
      · cases h
  · cases h
def startD (N : Nat) (ds : List D) : Rho := ds.map some ++ List.replicate (N - ds.length) none
/-- a def's body as a function -/
def run (N : Nat) (f : MS) : FM := fun s ds => match f (startD N ds) s with
  | some (.rt d s') => fin s.length d s'
  | some (.nx _ s') => fin s.length .non s'
  | _ => none
theorem env_start {K : PySem.W.Frag} {ws : Ws} {H : Hp} {ds : List D} {vs : List V} {N : List Str} (r : Reps K ws (mask ws H) ds vs) : EnvOk K ws H (L2.start N vs) (startD N.length ds) := by
  unfold L2.start startD
  refine ⟨by simp [r.length], fun i d e => ?_⟩
  by_cases hi : i < ds.length
  · rw [List.getElem?_append_left (by simpa using hi)] at e
    rw [List.getElem?_append_left (by simpa [← r.length] using hi)]
    simp only [List.getElem?_map, Option.map_eq_some_iff] at e ⊢
    obtain ⟨x, e, e2⟩ := e
    cases e2
    obtain ⟨v, e1, r1⟩ := r.get e
    exact ⟨v, ⟨v, e1, rfl⟩, r1⟩
  · rw [List.getElem?_append_right (by simpa using hi), List.getElem?_replicate] at e
    split at e
    · cases e
    · cases e
section
variable {P : Program} {w : World} {K : PySem.W.Frag} {mg : Str → Option Value} {base : Heap}
/-- THE RULE for a def -/
theorem fn_ok {x qual : Str} {st : Stmt} {f : Addr} {fd : FuncData} {N ps : List Str} {k : Nat} {g : MS} {m : FM} (F : Fun K x qual st f fd) (S : FnScope N ps (defScope st))
    (hbody : ∀ (cdv : Value) (A : Around) (outer : List Env) (s : Shared) (H : Hp) (E : XK), Room k (A.deeper (PyProof.Rows.envOfC qual (defScope st) s.heap.objs.size f cdv)) → DSs (cxOf CX0 P w K mg base N qual (defScope st) f cdv A outer s H E).nox (defBody st) g)
    (hm : ∀ s ds d s', m s ds = some (d, s') → run N.length g s ds = some (d, s')) : FnOk P w K mg base CX0 (k + 1) f fd ps (spF K ps.length m) := by
  refine F.ok S (fun vs H Q E h => h.1) (fun cdv A outer s H vs Q E hr h => ?_)
  obtain ⟨hl, ws, s0, ds, d, s', S0, r, hv, q⟩ := h
  obtain ⟨t, pb, eb⟩ := (hbody cdv A outer s H E hr).ex
  refine ⟨t, pb, ?_⟩
  have h2 := hm _ _ _ _ hv
  unfold run at h2
  split at h2
  · rename_i d1 s1 h3
    refine eb ws H s0 _ _ _ _ S0 (env_start r) h3 fun v ws1 H1 t1 S1 r1 => ?_
    obtain ⟨ws2, t2, S2, r2⟩ := fin_ok S0 t1 S1 r1 h2
    exact q v ws2 H1 t2 S2 r2
  · rename_i ρ1 s1 h3
    refine eb ws H s0 _ _ _ _ S0 (env_start r) h3 fun σ1 ws1 H1 t1 S1 N1 => ?_
    obtain ⟨ws2, t2, S2, r2⟩ := fin_ok (d := .non) (v := .non) S0 t1 S1 rfl h2
    exact q .non ws2 H1 t2 S2 r2
  · cases h2
/-- a def that is never called -/
theorem fn_none {f : Addr} {fd : FuncData} {ps : List Str} {k n : Nat} (hn : n = ps.length) : FnOk P w K mg base CX0 k f fd ps (spF K n fun _ _ => none) :=
  ⟨fun vs H Q E h => h.1.trans hn, fun A outer s H args us vs Q E hr he hb hv hs => by
    obtain ⟨_, ws, s0, ds, d, s', _, _, e, _⟩ := hs
    cases e⟩
end
end
end VL
set_option Elab.async false
set_option maxRecDepth 100000
set_option maxHeartbeats 4000000
set_option linter.all false
set_option autoImplicit false
/-! How the value functions are evaluated. -/
namespace VL
open PySem L2
noncomputable section
theorem nrf {α : Sort _} {a b : α} (h : a = b) : a = b := h
section
variable {α β : Type} {ρ : Rho} {s : Sto} {f g h fa fb fc : M D} {t u : M Bool} {d x y : D} {gg g1 g2 : G2} {i j : Int} {l n : Nat} {ds es : List D}
@[simp] theorem bnd_ap {a : M α} {k : α → M β} : bnd a k ρ s = match a ρ s with
  | some (x, s1) => k x ρ s1
  | none => none := nrf rfl
@[simp] theorem got_ap {a : Sto → Option α} : got a ρ s = match a s with
  | some x => some (x, s)
  | none => none := nrf rfl
@[simp] theorem ret_ap {x : α} : ret x ρ s = some (x, s) := nrf rfl
@[simp] theorem fVar_ap : fVar n ρ s = match ρ[n]? with
  | some (some d) => some (d, s)
  | _ => none := nrf rfl
@[simp] theorem fC_ap : fC d ρ s = some (d, s) := nrf rfl
@[simp] theorem fOp_ap : fOp gg fa fb ρ s = bnd fa (fun x => bnd fb fun y => got fun s => gg s x y) ρ s := nrf rfl
@[simp] theorem fTru_ap : fTru f ρ s = bnd f (fun x => got fun s => truD s x) ρ s := nrf rfl
def unBl : D → Option Bool
  | .bl b => some b
  | _ => none
@[simp] theorem unBl_bl {b : Bool} : unBl (.bl b) = some b := nrf rfl
@[simp] theorem fBl_ap : fBl f ρ s = bnd f (fun x => got fun _ => unBl x) ρ s := by
  unfold fBl bnd got
  cases f ρ s with
  | none => rfl
  | some r => cases r.1 <;> rfl
@[simp] theorem fChain_ap : fChain g1 g2 fa fb fc ρ s = bnd fa (fun x => bnd fb fun y => bnd (got fun s => (g1 s x y).bind unBl) fun b => if b = true then bnd fc fun w => got fun s => g2 s y w else ret (.bl false)) ρ s := by
  unfold fChain bnd got
  cases fa ρ s with
  | none => rfl
  | some r =>
    dsimp only
    cases fb ρ r.2 with
    | none => rfl
    | some r2 =>
      dsimp only
      cases g1 r2.2 r.1 r2.1 with
      | none => rfl
      | some z => cases z with
        | bl b => cases b <;> rfl
        | _ => rfl
@[simp] theorem fAndT_ap : fAndT t u ρ s = bnd t (fun x => if x = true then u else ret false) ρ s := nrf rfl
@[simp] theorem fOrT_ap : fOrT t u ρ s = bnd t (fun x => if x = true then ret true else u) ρ s := nrf rfl
@[simp] theorem fNotT_ap : fNotT t ρ s = bnd t (fun x => ret (!x)) ρ s := nrf rfl
@[simp] theorem fAnd_ap : fAnd f g ρ s = bnd f (fun x => bnd (got fun s => truD s x) fun b => if b = true then g else ret x) ρ s := nrf rfl
@[simp] theorem fOr_ap : fOr f g ρ s = bnd f (fun x => bnd (got fun s => truD s x) fun b => if b = true then ret x else g) ρ s := nrf rfl
@[simp] theorem fNot_ap : fNot f ρ s = bnd f (fun x => got fun s => (truD s x).map fun b => .bl (!b)) ρ s := nrf rfl
@[simp] theorem fIf_ap : fIf t f g ρ s = bnd t (fun b => if b = true then f else g) ρ s := nrf rfl
@[simp] theorem fNeg_ap : fNeg f ρ s = bnd f (fun x => got fun _ => negD x) ρ s := nrf rfl
@[simp] theorem fIs_ap {T : TN} : fIs T f ρ s = bnd f (fun x => ret (.bl (isT T x))) ρ s := nrf rfl
@[simp] theorem fNil_ap : fNil ρ s = some ([], s) := nrf rfl
@[simp] theorem fCons_ap {r : M (List D)} : fCons f r ρ s = bnd f (fun x => bnd r fun xs => ret (x :: xs)) ρ s := nrf rfl
@[simp] theorem fTup_ap {r : M (List D)} : fTup r ρ s = bnd r (fun xs => got fun _ => if xs.length ≤ LIM then some (.tup xs) else none) ρ s := nrf rfl
@[simp] theorem fLst_ap {r : M (List D)} : fLst r ρ s = bnd r (fun xs => got fun _ => if xs.length ≤ LIM then some (.lst xs) else none) ρ s := nrf rfl
@[simp] theorem fOwn_ap {r : M (List D)} : fOwn r ρ s = bnd r (fun xs => fun _ s => if xs.length ≤ LIM then some (.own s.length, s ++ [xs]) else none) ρ s := nrf rfl
@[simp] theorem fCB_ap {gc : GC} {r : M (List D)} : fCB gc r ρ s = bnd r (fun xs => got fun s => gc s xs) ρ s := nrf rfl
@[simp] theorem c1_ap {q : Sto → D → Option D} : c1 q s [x] = q s x := nrf rfl
@[simp] theorem fCall_ap {m : FM} {r : M (List D)} : fCall n m r ρ s = bnd r (fun xs => fun _ s => if xs.length = n then m s xs else none) ρ s := nrf rfl
@[simp] theorem fPart_ap : fPart f ρ s = bnd f (fun x => got fun _ => match x with
  | .int i => some (some i)
  | _ => none) ρ s := nrf rfl
@[simp] theorem fSl_ap {lo hi : M (Option Int)} : fSl f lo hi ρ s = bnd f (fun x => bnd lo fun l => bnd hi fun h => got fun s => slD s x l h) ρ s := nrf rfl
@[simp] theorem fSrc_ap : fSrc f ρ s = bnd f (fun x => got fun s => srcA s x) ρ s := nrf rfl
@[simp] theorem fRng1_ap : fRng1 f ρ s = bnd f (fun x => got fun _ => match x with
  | .int j => if smallI j = true then some (rngD 0 j.toNat, none) else none
  | _ => none) ρ s := nrf rfl
@[simp] theorem fRng2_ap : fRng2 f g ρ s = bnd f (fun x => bnd g fun y => got fun _ => match x, y with
  | .int i, .int j => if smallI i = true ∧ smallI j = true then some (rngD i (j - i).toNat, none) else none
  | _, _ => none) ρ s := nrf rfl
theorem fLc_ap {fi : M Src} {gt : D → Rho → Option Rho} {ft : M Bool} {fe : M D} {vs : List Nat} : fLc fi gt ft fe vs ρ s = bnd fi (fun z => fun ρ s => if z.1.length ≤ LIM then match lcL gt ft fe z.2 (wipeD ρ vs) z.1 s with
  | some (ys, s') => some (.lst ys, s')
  | none => none
  else none) ρ s := nrf rfl
@[simp] theorem wipeD_nil : wipeD ρ [] = ρ := nrf rfl
@[simp] theorem wipeD_cons {v : Nat} {vs : List Nat} : wipeD ρ (v :: vs) = (wipeD ρ vs).set v none := nrf rfl
/-! statements -/
@[simp] theorem bndS_ap {a : M α} {k : α → MS} : bndS a k ρ s = match a ρ s with
  | some (x, s1) => k x ρ s1
  | none => none := nrf rfl
@[simp] theorem fNx_ap : fNx ρ s = some (.nx ρ s) := nrf rfl
def sq (g : MS) : Option Out → Option Out
  | some (.nx ρ s) => g ρ s
  | r => r
@[simp] theorem sq_nx {g : MS} : sq g (some (.nx ρ s)) = g ρ s := nrf rfl
@[simp] theorem sq_rt {g : MS} : sq g (some (.rt d s)) = some (.rt d s) := nrf rfl
@[simp] theorem sq_bk {g : MS} : sq g (some (.bk ρ s)) = some (.bk ρ s) := nrf rfl
@[simp] theorem sq_ct {g : MS} : sq g (some (.ct ρ s)) = some (.ct ρ s) := nrf rfl
@[simp] theorem sq_none {g : MS} : sq g none = none := nrf rfl
@[simp] theorem fSeq_ap {f g : MS} : fSeq f g ρ s = sq g (f ρ s) := nrf rfl
@[simp] theorem fRet_ap : fRet f ρ s = bndS f (fun x _ s => some (.rt x s)) ρ s := nrf rfl
@[simp] theorem fRetN_ap : fRetN ρ s = some (.rt .non s) := nrf rfl
@[simp] theorem fBk_ap : fBk ρ s = some (.bk ρ s) := nrf rfl
@[simp] theorem fCt_ap : fCt ρ s = some (.ct ρ s) := nrf rfl
@[simp] theorem fIfS_ap {f1 f2 : MS} : fIfS t f1 f2 ρ s = bndS t (fun b => if b = true then f1 else f2) ρ s := nrf rfl
@[simp] theorem fDrop_ap : fDrop f ρ s = bndS f (fun _ ρ s => some (.nx ρ s)) ρ s := nrf rfl
@[simp] theorem fAsg_ap {gt : D → Rho → Option Rho} : fAsg f gt ρ s = bndS f (fun x ρ s => (gt x ρ).map fun ρ1 => .nx ρ1 s) ρ s := nrf rfl
@[simp] theorem gNm_ap : gNm n d ρ = some (ρ.set n (some d)) := nrf rfl
@[simp] theorem gNl_ap : gNl [] ρ = some ρ := nrf rfl
@[simp] theorem gCn_ap {gt : D → Rho → Option Rho} {gs : List D → Rho → Option Rho} : gCn gt gs (d :: ds) ρ = match gt d ρ with
  | some ρ1 => gs ds ρ1
  | none => none := nrf rfl
@[simp] theorem gTp_ap {gs : List D → Rho → Option Rho} : gTp n gs (.tup ds) ρ = if ds.length = n then gs ds ρ else none := nrf rfl
@[simp] theorem fPar_ap {i j : Nat} {r : M (List D)} : fPar i j r ρ s = bndS r (fun xs ρ s => match xs with
  | [x, y] => some (.nx ((ρ.set i (some x)).set j (some y)) s)
  | _ => none) ρ s := nrf rfl
@[simp] theorem fAug_ap : fAug n gg f ρ s = match ρ[n]? with
  | some (some x) => bndS f (fun y ρ s => (gg s x y).map fun z => .nx (ρ.set n (some z)) s) ρ s
  | _ => none := nrf rfl
@[simp] theorem fSub_ap : fSub f g h ρ s = bndS f (fun v => bndS g fun o => bndS h fun i ρ s => (putD s o i v).map fun s1 => .nx ρ s1) ρ s := nrf rfl
@[simp] theorem fApp_ap : fApp f g ρ s = bnd f (fun o => bnd g fun v => fun _ s => (appD s o v).map fun s1 => (.non, s1)) ρ s := nrf rfl
@[simp] theorem fFor_ap {fi : M Src} {gt : D → Rho → Option Rho} {fb : MS} : fFor fi gt fb ρ s = bndS fi (fun z => forL gt fb z.2 z.1) ρ s := nrf rfl
theorem fWhile_ap {fb : MS} : fWhile t fb (n + 1) ρ s = match t ρ s with
    | some (true, s1) => match fb ρ s1 with
      | some (.nx ρ2 s2) => fWhile t fb n ρ2 s2
      | some (.ct ρ2 s2) => fWhile t fb n ρ2 s2
      | some (.bk ρ2 s2) => some (.nx ρ2 s2)
      | some (.rt d s2) => some (.rt d s2)
      | none => none
    | some (false, s1) => some (.nx ρ s1)
    | none => none := nrf rfl
theorem forL_cons {gt : D → Rho → Option Rho} {fb : MS} {ck : Option (Nat × List D)} : forL gt fb ck (d :: ds) ρ s = if chk ck s = true then match gt d ρ with
    | some ρ1 => match fb ρ1 s with
      | some (.nx ρ2 s2) => forL gt fb ck ds ρ2 s2
      | some (.ct ρ2 s2) => forL gt fb ck ds ρ2 s2
      | some (.bk ρ2 s2) => some (.nx ρ2 s2)
      | some (.rt d s2) => some (.rt d s2)
      | none => none
    | none => none
    else none := nrf rfl
theorem forL_nil {gt : D → Rho → Option Rho} {fb : MS} {ck : Option (Nat × List D)} : forL gt fb ck [] ρ s = if chk ck s = true then some (.nx ρ s) else none := nrf rfl
theorem lcL_cons {gt : D → Rho → Option Rho} {ft : M Bool} {fe : M D} {ck : Option (Nat × List D)} : lcL gt ft fe ck ρ (d :: ds) s = if chk ck s = true then match gt d ρ with
    | some ρ1 => match ft ρ1 s with
      | some (true, s1) => match fe ρ1 s1 with
        | some (y, s2) => match lcL gt ft fe ck ρ ds s2 with
          | some (ys, s3) => some (y :: ys, s3)
          | none => none
        | none => none
      | some (false, s1) => lcL gt ft fe ck ρ ds s1
      | none => none
    | none => none
    else none := nrf rfl
theorem lcL_nil {gt : D → Rho → Option Rho} {ft : M Bool} {fe : M D} {ck : Option (Nat × List D)} : lcL gt ft fe ck ρ [] s = if chk ck s = true then some ([], s) else none := nrf rfl
@[simp] theorem chk_none : chk none s = true := nrf rfl
/-! values -/
@[simp] theorem truD_bl {b : Bool} : truD s (.bl b) = some b := nrf rfl
@[simp] theorem truD_int : truD s (.int i) = some (i != 0) := nrf rfl
@[simp] theorem truD_non : truD s .non = some false := nrf rfl
@[simp] theorem truD_lst : truD s (.lst ds) = some (!ds.isEmpty) := nrf rfl
@[simp] theorem truD_tup : truD s (.tup ds) = some (!ds.isEmpty) := nrf rfl
@[simp] theorem subD_int : subD s (.int i) (.int j) = some (.int (i - j)) := nrf rfl
@[simp] theorem andD_int : andD s (.int i) (.int j) = some (.int (Builtin.bitAnd i j)) := nrf rfl
@[simp] theorem orD_int : orD s (.int i) (.int j) = some (.int (Builtin.bitOr i j)) := nrf rfl
@[simp] theorem xorD_int : xorD s (.int i) (.int j) = some (.int (Builtin.bitXor i j)) := nrf rfl
@[simp] theorem ltD_int : ltD s (.int i) (.int j) = some (.bl (decide (i < j))) := nrf rfl
@[simp] theorem leD_int : leD s (.int i) (.int j) = some (.bl (decide (i ≤ j))) := nrf rfl
@[simp] theorem gtD_int : gtD s (.int i) (.int j) = some (.bl (decide (j < i))) := nrf rfl
@[simp] theorem geD_int : geD s (.int i) (.int j) = some (.bl (decide (j ≤ i))) := nrf rfl
@[simp] theorem i2_int {q : Int → Int → Option D} : i2 q s (.int i) (.int j) = q i j := nrf rfl
@[simp] theorem addD_int : addD s (.int i) (.int j) = some (.int (i + j)) := nrf rfl
@[simp] theorem addI_int : addI s (.int i) (.int j) = some (.int (i + j)) := nrf rfl
@[simp] theorem addD_tup : addD s (.tup ds) (.tup es) = if ds.length + es.length ≤ LIM then some (.tup (ds ++ es)) else none := nrf rfl
@[simp] theorem addD_lst : addD s (.lst ds) (.lst es) = if ds.length + es.length ≤ LIM then some (.lst (ds ++ es)) else none := nrf rfl
@[simp] theorem mulD_int : mulD s (.int i) (.int j) = mulI i j := nrf rfl
@[simp] theorem mulD_lst : mulD s (.lst ds) (.int i) = if smallI i = true ∧ ds.length * i.toNat ≤ LIM then some (.lst (List.replicate i.toNat ds).flatten) else none := nrf rfl
@[simp] theorem negD_int : negD (.int i) = some (.int (-i)) := nrf rfl
@[simp] theorem isN_non : isN s x .non = some (.bl (isNone x)) := nrf rfl
@[simp] theorem isNN_non : isNN s x .non = some (.bl (!isNone x)) := nrf rfl
@[simp] theorem ixD_own : ixD s (.own l) (.int i) = (s[l]?).bind fun ds => atI ds i := nrf rfl
@[simp] theorem ixD_lst : ixD s (.lst ds) (.int i) = atI ds i := nrf rfl
@[simp] theorem ixD_lck : ixD s (.lck ds) (.int i) = atI ds i := nrf rfl
@[simp] theorem ixD_tup : ixD s (.tup ds) (.int i) = atI ds i := nrf rfl
@[simp] theorem lenD_lst : lenD s (.lst ds) = some (.int ds.length) := nrf rfl
@[simp] theorem lenD_lck : lenD s (.lck ds) = some (.int ds.length) := nrf rfl
@[simp] theorem lenD_tup : lenD s (.tup ds) = some (.int ds.length) := nrf rfl
@[simp] theorem lenD_own : lenD s (.own l) = (s[l]?).map fun ds => .int ds.length := nrf rfl
@[simp] theorem tupleD_lst : tupleD s (.lst ds) = some (.tup ds) := nrf rfl
@[simp] theorem tupleD_tup : tupleD s (.tup ds) = some (.tup ds) := nrf rfl
@[simp] theorem tupleD_own : tupleD s (.own l) = (s[l]?).map .tup := nrf rfl
@[simp] theorem listD_lst : listD s (.lst ds) = some (.lst ds) := nrf rfl
@[simp] theorem listD_lck : listD s (.lck ds) = some (.lst ds) := nrf rfl
@[simp] theorem listD_tup : listD s (.tup ds) = some (.lst ds) := nrf rfl
@[simp] theorem listD_own : listD s (.own l) = (s[l]?).map .lst := nrf rfl
@[simp] theorem absD_int : absD s (.int i) = some (.int (if i < 0 then -i else i)) := nrf rfl
@[simp] theorem intD_int : intD s (.int i) = some (.int i) := nrf rfl
@[simp] theorem intD_bl {b : Bool} : intD s (.bl b) = some (.int (if b then 1 else 0)) := nrf rfl
@[simp] theorem slD_tup {lo hi : Option Int} : slD s (.tup ds) lo hi = some (.tup (cutD ds lo hi)) := nrf rfl
@[simp] theorem srcA_lst : srcA s (.lst ds) = some (ds, none) := nrf rfl
@[simp] theorem srcA_tup : srcA s (.tup ds) = some (ds, none) := nrf rfl
@[simp] theorem srcA_lck : srcA s (.lck ds) = some (ds, none) := nrf rfl
@[simp] theorem putD_own {v : D} : putD s (.own l) (.int i) v = match s[l]? with
    | some ds => match ixN ds.length i with
      | some j => some (s.set l (ds.set j v))
      | none => none
    | none => none := nrf rfl
@[simp] theorem eqD_int : eqD s (.int i) (.int j) = some (.bl (decide (i = j))) := nrf rfl
@[simp] theorem eqD_bl {a b : Bool} : eqD s (.bl a) (.bl b) = some (.bl (decide (a = b))) := nrf rfl
@[simp] theorem eqD_str {a b : Str} : eqD s (.str a) (.str b) = some (.bl (decide (a = b))) := nrf rfl
/-! items at a place -/
theorem ixN_nat (n k : Nat) : ixN n (k : Int) = if k < n then some k else none := by
  unfold ixN
  rw [if_pos (by omega)]
  by_cases h : k < n
  · rw [if_pos (by omega), if_pos h]; simp
  · rw [if_neg (by omega), if_neg h]
@[simp] theorem ixN_lit (n k : Nat) : ixN n (no_index (OfNat.ofNat k) : Int) = if k < n then some k else none := ixN_nat n k
theorem atI_nat' {α : Type} (xs : List α) (k : Nat) : atI xs (k : Int) = xs[k]? := by
  unfold atI
  rw [ixN_nat]
  by_cases h : k < xs.length
  · rw [if_pos h]; rfl
  · rw [if_neg h, List.getElem?_eq_none (by omega)]; rfl
@[simp] theorem atI_lit' {α : Type} (xs : List α) (k : Nat) : atI xs (no_index (OfNat.ofNat k) : Int) = xs[k]? := atI_nat' xs k
theorem atI_pos {α : Type} (xs : List α) {i : Int} (h : 0 ≤ i) : atI xs i = xs[i.toNat]? := by
  have e : ((i.toNat : Nat) : Int) = i := by omega
  rw [← atI_nat', e]
theorem atI_lit {α : Type} {xs : List α} {j : Nat} (h : j < xs.length) : atI xs (j : Int) = xs[j]? := by
  rw [List.getElem?_eq_getElem h]
  exact atI_nat (List.getElem?_eq_getElem h)
end
end
end VL
set_option Elab.async false
set_option maxRecDepth 100000
set_option maxHeartbeats 4000000
set_option linter.all false
set_option autoImplicit false
/-! Loops of a plain kind, in one step. -/
namespace VL
open PySem L2
noncomputable section
section
variable {ρ : Rho} {s : Sto} {gt : D → Rho → Option Rho} {ft : M Bool} {fe : M D} {fb : MS} {lo : Int} {n : Nat} {ds : List D}
@[simp] theorem rngD_length : (rngD lo n).length = n := by
  unfold rngD
  rw [List.length_map, List.length_range]
theorem rngD_succ : rngD lo (n + 1) = .int lo :: rngD (lo + 1) n := by
  unfold rngD
  rw [List.range_succ_eq_map, List.map_cons, List.map_map]
  congr 1
  · simp
  · apply List.map_congr_left
    intro i _
    show D.int (lo + ((i + 1 : Nat) : Int)) = D.int (lo + 1 + (i : Int))
    congr 1
    omega
theorem lcL_none : ∀ {ds : List D}, (∀ d ∈ ds, ∃ ρ1, gt d ρ = some ρ1 ∧ ft ρ1 s = some (false, s)) → lcL gt ft fe none ρ ds s = some ([], s)
  | [], _ => by rw [lcL_nil, chk_none, if_pos rfl]
  | d :: ds, h => by
    obtain ⟨ρ1, h1, h2⟩ := h d List.mem_cons_self
    simp only [lcL_cons, chk_none, if_true, h1, h2]
    exact lcL_none fun e he => h e (List.mem_cons_of_mem _ he)
theorem lcL_map {F : D → D} : ∀ {ds : List D}, (∀ d ∈ ds, ∃ ρ1, gt d ρ = some ρ1 ∧ ft ρ1 s = some (true, s) ∧ fe ρ1 s = some (F d, s)) → lcL gt ft fe none ρ ds s = some (ds.map F, s)
  | [], _ => by rw [lcL_nil, chk_none, if_pos rfl]; rfl
  | d :: ds, h => by
    obtain ⟨ρ1, h1, h2, h3⟩ := h d List.mem_cons_self
    simp only [lcL_cons, chk_none, if_true, h1, h2, h3, lcL_map fun e he => h e (List.mem_cons_of_mem _ he), List.map_cons]
theorem lcL_rng : ∀ {n : Nat} {lo : Int} {F : Nat → D}, (∀ i, i < n → ∃ ρ1, gt (.int (lo + (i : Int))) ρ = some ρ1 ∧ ft ρ1 s = some (true, s) ∧ fe ρ1 s = some (F i, s)) → lcL gt ft fe none ρ (rngD lo n) s = some ((List.range n).map F, s)
  | 0, _, _, _ => by rw [show rngD _ 0 = [] from rfl, lcL_nil, chk_none, if_pos rfl]; rfl
  | n + 1, lo, F, h => by
    obtain ⟨ρ1, h1, h2, h3⟩ := h 0 (Nat.succ_pos _)
    have e : lo + ((0 : Nat) : Int) = lo := by simp
    rw [e] at h1
    have ih := lcL_rng (n := n) (lo := lo + 1) (F := fun i => F (i + 1)) fun i hi => by
      have := h (i + 1) (Nat.succ_lt_succ hi)
      have e2 : lo + ((i + 1 : Nat) : Int) = lo + 1 + (i : Int) := by omega
      rwa [e2] at this
    simp only [rngD_succ, lcL_cons, chk_none, if_true, h1, h2, h3, ih, List.range_succ_eq_map, List.map_cons, List.map_map]
    rfl
/-- with a test -/
theorem lcL_if : ∀ {n : Nat} {lo : Int} {F : Nat → D} {p : Nat → Bool}, (∀ i, i < n → ∃ ρ1, gt (.int (lo + (i : Int))) ρ = some ρ1 ∧ ft ρ1 s = some (p i, s) ∧ (p i = true → fe ρ1 s = some (F i, s))) → lcL gt ft fe none ρ (rngD lo n) s = some (((List.range n).filter p).map F, s)
  | 0, _, _, _, _ => by rw [show rngD _ 0 = [] from rfl, lcL_nil, chk_none, if_pos rfl]; rfl
  | n + 1, lo, F, p, h => by
    obtain ⟨ρ1, h1, h2, h3⟩ := h 0 (Nat.succ_pos _)
    have e : lo + ((0 : Nat) : Int) = lo := by simp
    rw [e] at h1
    have ih := lcL_if (n := n) (lo := lo + 1) (F := fun i => F (i + 1)) (p := fun i => p (i + 1)) fun i hi => by
      have := h (i + 1) (Nat.succ_lt_succ hi)
      have e2 : lo + ((i + 1 : Nat) : Int) = lo + 1 + (i : Int) := by omega
      rwa [e2] at this
    rw [rngD_succ, lcL_cons, chk_none, if_pos rfl, h1]
    simp only [h2]
    have er : ((List.range (n + 1)).filter p).map F = (if p 0 = true then [F 0] else []) ++ ((List.range n).filter fun i => p (i + 1)).map fun i => F (i + 1) := by
      rw [List.range_succ_eq_map, List.filter_cons, List.filter_map]
      split
      · rw [List.map_cons, List.map_map]; rfl
      · rw [List.map_map]; rfl
    rw [er]
    cases hp : p 0 with
    | true =>
      simp only [h3 hp, ih, if_true]
      rfl
    | false =>
      simp only [ih, Bool.false_eq_true, if_false]
      rfl
/-- a for over a range, by the names behind each turn -/
theorem forL_rng : ∀ {n : Nat} {lo : Int} {I : Nat → Rho}, (∀ i, i < n → ∃ ρ1, gt (.int (lo + (i : Int))) (I i) = some ρ1 ∧ fb ρ1 s = some (.nx (I (i + 1)) s)) → forL gt fb none (rngD lo n) (I 0) s = some (.nx (I n) s)
  | 0, _, _, _ => by rw [show rngD _ 0 = [] from rfl, forL_nil, chk_none, if_pos rfl]
  | n + 1, lo, I, h => by
    obtain ⟨ρ1, h1, h2⟩ := h 0 (Nat.succ_pos _)
    have e : lo + ((0 : Nat) : Int) = lo := by simp
    rw [e] at h1
    have ih := forL_rng (n := n) (lo := lo + 1) (I := fun i => I (i + 1)) fun i hi => by
      have := h (i + 1) (Nat.succ_lt_succ hi)
      have e2 : lo + ((i + 1 : Nat) : Int) = lo + 1 + (i : Int) := by omega
      rwa [e2] at this
    rw [rngD_succ, forL_cons, chk_none, if_pos rfl, h1]
    simp only [h2]
    exact ih
end
@[simp] theorem blsD_map : ∀ {α : Type} (l : List α) (f : α → Bool), blsD (l.map fun x => D.bl (f x)) = some (l.map f)
  | _, [], f => rfl
  | _, a :: l, f => by simp only [List.map_cons, blsD, blsD_map l f, Option.map_some]
@[simp] theorem intsD_map : ∀ {α : Type} (l : List α) (f : α → Int), intsD (l.map fun x => D.int (f x)) = some (l.map f)
  | _, [], f => rfl
  | _, a :: l, f => by simp only [List.map_cons, intsD, intsD_map l f, Option.map_some]
@[simp] theorem intsD_map' (l : List Int) : intsD (l.map D.int) = some l := by
  have := intsD_map l id
  simpa using this
theorem lows_int (n : Nat) : ∀ ns : List Int, lows n (ns.map D.int) = true
  | [] => rfl
  | a :: ns => by simp only [List.map_cons, lows, low, lows_int n ns, Bool.and_self]
theorem shlI_nat {i : Int} {k : Nat} (h0 : 0 ≤ i) (h1 : i ≤ 1000000000000) (h2 : k ≤ 1000000) : shlI i (k : Int) = some (.int (i * 2 ^ k)) := by
  unfold shlI
  rw [if_pos (shOk_of h0 h1 (by omega) (by omega))]
  rfl
@[simp] theorem shlI_one {k : Nat} (h2 : k ≤ 1000000) : shlI 1 (k : Int) = some (.int (2 ^ k)) := by
  rw [shlI_nat (by decide) (by decide) h2, Int.one_mul]
@[simp] theorem shlI_lit (a k : Nat) (h1 : a ≤ 1000000000000) (h2 : k ≤ 1000000) : shlI (no_index (OfNat.ofNat a) : Int) (no_index (OfNat.ofNat k) : Int) = some (.int (OfNat.ofNat a * 2 ^ k)) :=
  shlI_nat (i := (a : Int)) (k := k) (by omega) (by omega) h2
@[simp] theorem shrI_nat (i : Int) (k : Nat) : shrI i (k : Int) = some (.int (i / 2 ^ k)) := by
  unfold shrI
  rw [if_pos (by omega)]
  rfl
/-- a value that is handed back as it is -/
theorem fin_low {s : Sto} {d : D} (hs : s.all (lows s.length) = true) (hd : low s.length d = true) : fin s.length d s = some (d, s) := by
  unfold fin
  rw [List.take_length, if_pos hs]
  cases d with
  | own l =>
    have : l < s.length := by simpa only [low, decide_eq_true_eq] using hd
    simp only [this, if_true]
  | _ => simp only [hd, if_true]
end
end VL
set_option Elab.async false
set_option maxRecDepth 100000
set_option maxHeartbeats 4000000
set_option linter.all false
set_option autoImplicit false
namespace LW
open PySem L2 VL
noncomputable section
def g__law_next : MS := fSeq (fAsg (fOp ixD (fVar 0) (fC (.int 2))) (gNm 2)) (fSeq (fIfS (fBl (fOp eqD (fVar 2) (fC (.int 0)))) (fSeq (fAsg (fC (.int 0)) (gNm 3)) (fSeq (fIfS (fBl (fOp ltD (fOp ixD (fVar 0) (fC (.int 1))) (fCB (c1 lenD) (fCons (fOp ixD (fVar 0) (fC (.int 0))) (fNil))))) (fSeq (fAsg (fCB (c1 absD) (fCons (fCB (c1 intD) (fCons (fOp ixD (fOp ixD (fVar 0) (fC (.int 0))) (fOp ixD (fVar 0) (fC (.int 1)))) (fNil))) (fNil))) (gNm 3)) (fSub (fOp addD (fOp ixD (fVar 0) (fC (.int 1))) (fC (.int 1))) (fVar 0) (fC (.int 1)))) (fNx)) (fSeq (fAsg (fVar 3) (gNm 2)) (fIfS (fBl (fOp ltD (fVar 3) (fOp (i2 powI) (fC (.int 10)) (fC (.int 18))))) (fSeq (fSub (fOp (i2 modI) (fCB (c1 intD) (fCons (fOp addD (fOp addD (fOp mulD (fOp ixD (fVar 0) (fC (.int 3))) (fC (.int 69621))) (fOp mulD (fVar 3) (fC (.int 40692)))) (fC (.int 17))) (fNil))) (fC (.int 2147483647))) (fVar 0) (fC (.int 3))) (fRet (fOp (i2 modI) (fOp (i2 modI) (fCB (c1 intD) (fCons (fOp mulD (fCB (c1 intD) (fCons (fOp (i2 fdivI) (fOp ixD (fVar 0) (fC (.int 3))) (fC (.int 5))) (fNil))) (fC (.int 48271))) (fNil))) (fC (.int 2147483647))) (fVar 1)))) (fNx))))) (fNx)) (fSeq (fSub (fOp (i2 fdivI) (fVar 2) (fVar 1)) (fVar 0) (fC (.int 2))) (fRet (fOp (i2 modI) (fCB (c1 intD) (fCons (fVar 2) (fNil))) (fVar 1)))))
def m__law_next : FM := run 4 g__law_next
def g__law_same (m_rec : FM) : MS := fSeq (fIfS (fBl (fOp isN (fVar 1) (fC .non))) (fRet (fOp isN (fVar 0) (fC .non))) (fNx)) (fSeq (fIfS (fTru (fIs TN.bool (fVar 1))) (fRet (fAnd (fIs TN.bool (fVar 0)) (fOp eqD (fVar 0) (fVar 1)))) (fNx)) (fSeq (fIfS (fTru (fIs TN.int (fVar 1))) (fRet (fAnd (fIs TN.int (fVar 0)) (fAnd (fNot (fIs TN.bool (fVar 0))) (fOp eqD (fVar 0) (fVar 1))))) (fNx)) (fSeq (fIfS (fTru (fIs TN.str (fVar 1))) (fRet (fAnd (fIs TN.str (fVar 0)) (fOp eqD (fVar 0) (fVar 1)))) (fNx)) (fSeq (fIfS (fOrT (fAndT (fTru (fIs TN.list (fVar 1))) (fNotT (fTru (fIs TN.list (fVar 0))))) (fAndT (fTru (fIs TN.tuple (fVar 1))) (fNotT (fTru (fIs TN.tuple (fVar 0)))))) (fRet (fC (.bl false))) (fNx)) (fRet (fAnd (fOp eqD (fCB (c1 lenD) (fCons (fVar 0) (fNil))) (fCB (c1 lenD) (fCons (fVar 1) (fNil)))) (fOp eqD (fLc (fRng1 (fCB (c1 lenD) (fCons (fVar 1) (fNil)))) (gNm 2) (fNotT (fTru (fCall 2 m_rec (fCons (fOp ixD (fVar 0) (fVar 2)) (fCons (fOp ixD (fVar 1) (fVar 2)) (fNil)))))) (fC (.int 1)) [2]) (fLst (fNil)))))))))
def m__law_same : Nat → FM
  | 0 => fun _ _ => none
  | n + 1 => run 3 (g__law_same (m__law_same n))
def g_bits_of : MS := fRet (fCB (c1 tupleD) (fCons (fLc (fRng1 (fVar 1)) (gNm 2) (ret true) (fOp andD (fOp (i2 shrI) (fVar 0) (fVar 2)) (fC (.int 1))) [2]) (fNil)))
def m_bits_of : FM := run 3 g_bits_of
def g_word_of : MS := fSeq (fAsg (fC (.int 0)) (gNm 1)) (fSeq (fFor (fRng1 (fCB (c1 lenD) (fCons (fVar 0) (fNil)))) (gNm 2) (fAug 1 addI (fOp (i2 shlI) (fOp ixD (fVar 0) (fVar 2)) (fVar 2)))) (fRet (fVar 1)))
def m_word_of : FM := run 3 g_word_of
def g_cut_word : MS := fRet (fOp andD (fVar 0) (fOp subD (fOp (i2 shlI) (fC (.int 1)) (fVar 1)) (fC (.int 1))))
def m_cut_word : FM := run 2 g_cut_word
def g_one_count : MS := fSeq (fAsg (fC (.int 0)) (gNm 1)) (fSeq (fWhile (fBl (fOp gtD (fVar 0) (fC (.int 0)))) (fPar 1 0 (fCons (fOp addD (fVar 1) (fOp andD (fVar 0) (fC (.int 1)))) (fCons (fOp (i2 shrI) (fVar 0) (fC (.int 1))) (fNil)))) 64) (fRet (fVar 1)))
def m_one_count : FM := run 2 g_one_count
def g_number_width : MS := fSeq (fAsg (fC (.int 1)) (gNm 1)) (fSeq (fWhile (fBl (fOp gtD (fOp (i2 shrI) (fVar 0) (fVar 1)) (fC (.int 0)))) (fAug 1 addI (fC (.int 1))) 64) (fRet (fVar 1)))
def m_number_width : FM := run 2 g_number_width
def g_is_count : MS := fRet (fAnd (fIs TN.int (fVar 0)) (fAnd (fNot (fIs TN.bool (fVar 0))) (fOp geD (fVar 0) (fC (.int 0)))))
def m_is_count : FM := run 1 g_is_count
def g_is_word : MS := fRet (fAnd (fCall 1 m_is_count (fCons (fVar 0) (fNil))) (fOp ltD (fVar 0) (fOp (i2 shlI) (fC (.int 1)) (fVar 1))))
def m_is_word : FM := run 2 g_is_word
def g_are_words : MS := fRet (fAnd (fIs TN.tuple (fVar 0)) (fCB (c1 allD) (fCons (fLc (fSrc (fVar 0)) (gNm 2) (ret true) (fCall 2 m_is_word (fCons (fVar 2) (fCons (fVar 1) (fNil)))) [2]) (fNil))))
def m_are_words : FM := run 3 g_are_words
def g_is_bits : MS := fRet (fAnd (fIs TN.tuple (fVar 0)) (fAnd (fOp eqD (fCB (c1 lenD) (fCons (fVar 0) (fNil))) (fVar 1)) (fCB (c1 allD) (fCons (fLc (fSrc (fVar 0)) (gNm 2) (ret true) (fCall 2 m_is_word (fCons (fVar 2) (fCons (fC (.int 1)) (fNil)))) [2]) (fNil)))))
def m_is_bits : FM := run 3 g_is_bits
def g_is_width : MS := fRet (fAnd (fCall 1 m_is_count (fCons (fVar 0) (fNil))) (fChain leD leD (fC (.int 1)) (fVar 0) (fC (.int 8))))
def m_is_width : FM := run 1 g_is_width
def g_law : MS := fSeq (fAsg (fOwn (fCons (fCB (c1 listD) (fCons (fVar 0) (fNil))) (fCons (fC (.int 0)) (fCons (fC (.int 0)) (fCons (fC (.int 1)) (fNil)))))) (gNm 1)) (fSeq (fAsg (fOp addD (fC (.int 1)) (fCall 2 m__law_next (fCons (fVar 1) (fCons (fC (.int 8)) (fNil))))) (gNm 2)) (fSeq (fAsg (fTup (fCons (fCall 2 m__law_next (fCons (fVar 1) (fCons (fOp (i2 shlI) (fC (.int 1)) (fVar 2)) (fNil)))) (fCons (fOp subD (fCall 2 m__law_next (fCons (fVar 1) (fCons (fOp (i2 shlI) (fC (.int 1)) (fC (.int 12))) (fNil)))) (fOp (i2 shlI) (fC (.int 1)) (fC (.int 11)))) (fNil)))) (gTp 2 (gCn (gNm 3) (gCn (gNm 4) (gNl))))) (fSeq (fAsg (fCB (c1 tupleD) (fCons (fLc (fRng1 (fVar 2)) (gNm 12) (ret true) (fOp andD (fOp (i2 fdivI) (fVar 3) (fOp (i2 shlI) (fC (.int 1)) (fVar 12))) (fC (.int 1))) [12]) (fNil))) (gNm 5)) (fSeq (fAsg (fCall 2 m__law_next (fCons (fVar 1) (fCons (fOp (i2 shlI) (fC (.int 1)) (fC (.int 20))) (fNil)))) (gNm 6)) (fSeq (fAsg (fCB (c1 lenD) (fCons (fLc (fRng2 (fC (.int 1)) (fC (.int 30))) (gNm 12) (fBl (fOp geD (fVar 6) (fOp (i2 shlI) (fC (.int 1)) (fVar 12)))) (fVar 12) [12]) (fNil))) (gNm 7)) (fSeq (fAsg (fLst (fCons (fCall 2 m_bits_of (fCons (fVar 3) (fCons (fVar 2) (fNil)))) (fCons (fCall 1 m_word_of (fCons (fVar 5) (fNil))) (fCons (fCall 2 m_cut_word (fCons (fVar 4) (fCons (fVar 2) (fNil)))) (fCons (fCall 1 m_one_count (fCons (fVar 6) (fNil))) (fCons (fCall 1 m_number_width (fCons (fVar 6) (fNil))) (fCons (fC (.int 8)) (fNil)))))))) (gNm 8)) (fSeq (fIfS (fNotT (fTru (fCall 2 (m__law_same 8) (fCons (fVar 8) (fCons (fLst (fCons (fVar 5) (fCons (fVar 3) (fCons (fOp (i2 modI) (fCB (c1 intD) (fCons (fVar 4) (fNil))) (fOp (i2 shlI) (fC (.int 1)) (fVar 2))) (fCons (fCB (c1 sumD) (fCons (fLc (fRng1 (fC (.int 20))) (gNm 12) (ret true) (fOp andD (fOp (i2 shrI) (fVar 6) (fVar 12)) (fC (.int 1))) [12]) (fNil))) (fCons (fOp addD (fC (.int 1)) (fVar 7)) (fCons (fC (.int 8)) (fNil)))))))) (fNil)))))) (fRet (fC (.bl false))) (fNx)) (fSeq (fAsg (fLst (fCons (fC (.int 0)) (fCons (fC (.int 1)) (fCons (fC (.int 8)) (fCons (fC (.int 9)) (fCons (fNeg (fC (.int 1))) (fCons (fC (.bl true)) (fCons (fC .non) (fCons (fC (.str ("1" : Str))) (fCons (fTup (fCons (fC (.int 1)) (fNil))) (fNil))))))))))) (gNm 9)) (fSeq (fIfS (fNotT (fTru (fCall 2 (m__law_same 8) (fCons (fLst (fCons (fLc (fSrc (fVar 9)) (gNm 13) (ret true) (fCall 1 m_is_count (fCons (fVar 13) (fNil))) [13]) (fCons (fLc (fSrc (fVar 9)) (gNm 13) (ret true) (fCall 1 m_is_width (fCons (fVar 13) (fNil))) [13]) (fNil)))) (fCons (fLst (fCons (fOp addD (fOp mulD (fLst (fCons (fC (.bl true)) (fNil))) (fC (.int 4))) (fOp mulD (fLst (fCons (fC (.bl false)) (fNil))) (fC (.int 5)))) (fCons (fOp addD (fLst (fCons (fC (.bl false)) (fCons (fC (.bl true)) (fCons (fC (.bl true)) (fNil))))) (fOp mulD (fLst (fCons (fC (.bl false)) (fNil))) (fC (.int 6)))) (fNil)))) (fNil)))))) (fRet (fC (.bl false))) (fNx)) (fSeq (fAsg (fLc (fSrc (fTup (fCons (fVar 3) (fCons (fOp subD (fOp (i2 shlI) (fC (.int 1)) (fVar 2)) (fC (.int 1))) (fCons (fOp (i2 shlI) (fC (.int 1)) (fVar 2)) (fCons (fNeg (fC (.int 1))) (fCons (fC (.bl true)) (fCons (fC .non) (fCons (fC (.str ("0" : Str))) (fNil)))))))))) (gNm 13) (ret true) (fCall 2 m_is_word (fCons (fVar 13) (fCons (fVar 2) (fNil)))) [13]) (gNm 8)) (fSeq (fIfS (fNotT (fTru (fCall 2 (m__law_same 8) (fCons (fVar 8) (fCons (fOp addD (fLst (fCons (fC (.bl true)) (fCons (fC (.bl true)) (fNil)))) (fOp mulD (fLst (fCons (fC (.bl false)) (fNil))) (fC (.int 5)))) (fNil)))))) (fRet (fC (.bl false))) (fNx)) (fSeq (fAsg (fLst (fCons (fVar 5) (fCons (fCB (c1 listD) (fCons (fVar 5) (fNil))) (fCons (fOp addD (fVar 5) (fTup (fCons (fC (.int 0)) (fNil)))) (fCons (fSl (fVar 5) (fPart (fC (.int 1))) (ret none)) (fCons (fC .non) (fCons (fOp addD (fSl (fVar 5) (ret none) (fPart (fNeg (fC (.int 1))))) (fTup (fCons (fC (.int 2)) (fNil)))) (fCons (fOp addD (fSl (fVar 5) (ret none) (fPart (fNeg (fC (.int 1))))) (fTup (fCons (fC (.bl true)) (fNil)))) (fCons (fOp addD (fSl (fVar 5) (ret none) (fPart (fNeg (fC (.int 1))))) (fTup (fCons (fNeg (fC (.int 1))) (fNil)))) (fNil)))))))))) (gNm 10)) (fSeq (fIfS (fNotT (fTru (fCall 2 (m__law_same 8) (fCons (fLc (fSrc (fVar 10)) (gNm 13) (ret true) (fCall 2 m_is_bits (fCons (fVar 13) (fCons (fVar 2) (fNil)))) [13]) (fCons (fOp addD (fLst (fCons (fC (.bl true)) (fNil))) (fOp mulD (fLst (fCons (fC (.bl false)) (fNil))) (fC (.int 7)))) (fNil)))))) (fRet (fC (.bl false))) (fNx)) (fSeq (fAsg (fCB (c1 tupleD) (fCons (fLc (fRng1 (fCall 2 m__law_next (fCons (fVar 1) (fCons (fC (.int 4)) (fNil))))) (gNm 12) (ret true) (fCall 2 m__law_next (fCons (fVar 1) (fCons (fOp (i2 shlI) (fC (.int 1)) (fVar 2)) (fNil)))) [12]) (fNil))) (gNm 11)) (fSeq (fAsg (fLst (fCons (fVar 11) (fCons (fCB (c1 listD) (fCons (fVar 11) (fNil))) (fCons (fOp addD (fVar 11) (fTup (fCons (fOp (i2 shlI) (fC (.int 1)) (fVar 2)) (fNil)))) (fCons (fOp addD (fVar 11) (fTup (fCons (fC (.bl true)) (fNil)))) (fCons (fOp addD (fVar 11) (fTup (fCons (fNeg (fC (.int 1))) (fNil)))) (fCons (fC .non) (fCons (fTup (fNil)) (fNil))))))))) (gNm 10)) (fRet (fCall 2 (m__law_same 8) (fCons (fLc (fSrc (fVar 10)) (gNm 13) (ret true) (fCall 2 m_are_words (fCons (fVar 13) (fCons (fVar 2) (fNil)))) [13]) (fCons (fOp addD (fOp addD (fLst (fCons (fC (.bl true)) (fNil))) (fOp mulD (fLst (fCons (fC (.bl false)) (fNil))) (fC (.int 5)))) (fLst (fCons (fC (.bl true)) (fNil)))) (fNil))))))))))))))))))))
def m_law : FM := run 14 g_law
end
end LW
set_option Elab.async false
set_option maxRecDepth 100000
set_option maxHeartbeats 4000000
set_option linter.all false
set_option autoImplicit false
/-! The mathematics of the law: what the value functions give. -/
namespace LW
open PySem L2 VL
/-! ### the tape -/
def tp (ns : List Int) (p r z : Int) : List D := [.lst (ns.map D.int), .int p, .int r, .int z]
theorem lows_tp (n : Nat) (ns : List Int) (p r z : Int) : lows n (tp ns p r z) = true := by
  simp only [tp, lows, low, lows_int, Bool.and_self]
theorem atI_map {ns : List Int} {p : Int} (h0 : 0 ≤ p) (h : p < ns.length) : ∃ c, atI (ns.map D.int) p = some (.int c) := by
  refine ⟨ns[p.toNat]'(by omega), ?_⟩
  rw [atI_pos _ h0, List.getElem?_map, List.getElem?_eq_getElem (by omega)]
  rfl
theorem next_ok (ns : List Int) (p r z many : Int) (h1 : 0 < many) (h2 : many < 1073741824) (hp : 0 ≤ p) (hr : 0 ≤ r) (hz : 0 ≤ z) : ∃ d p' r' z', m__law_next [tp ns p r z] [.own 0, .int many] = some (.int d, [tp ns p' r' z']) ∧ 0 ≤ d ∧ d < many ∧ 0 ≤ p' ∧ 0 ≤ r' ∧ 0 ≤ z' := by
  have hm : many ≠ 0 := by omega
  have hd : dvOk many = true := (dvOk_iff _).mpr ⟨h1, h2⟩
  by_cases h : r = 0
  · by_cases hl : p < ns.length
    · obtain ⟨c, hc⟩ := atI_map hp hl
      have hc0 : 0 ≤ (if c < 0 then -c else c) := by split <;> omega
      by_cases hb : (if c < 0 then -c else c) < 1000000000000000000
      · simp [m__law_next, VL.run, g__law_next, startD, tp, h, powI, mulI, modI, fdivI, hl, hc, hb, h1, hd, fin, lows, low, lows_int]
        exact ⟨_, _, _, _, ⟨rfl, rfl, rfl, rfl⟩, Int.emod_nonneg _ hm, Int.emod_lt_of_pos _ h1, by omega, by omega, Int.emod_nonneg _ (by decide)⟩
      · simp [m__law_next, VL.run, g__law_next, startD, tp, h, powI, mulI, modI, fdivI, hl, hc, hb, h1, hd, fin, lows, low, lows_int]
        exact ⟨_, _, _, _, ⟨rfl, rfl, rfl, rfl⟩, Int.emod_nonneg _ hm, Int.emod_lt_of_pos _ h1, by omega, Int.ediv_nonneg hc0 (by omega), hz⟩
    · simp [m__law_next, VL.run, g__law_next, startD, tp, h, powI, mulI, modI, fdivI, hl, h1, hd, fin, lows, low, lows_int]
      exact ⟨_, _, _, _, ⟨rfl, rfl, rfl, rfl⟩, Int.emod_nonneg _ hm, Int.emod_lt_of_pos _ h1, hp, by omega, Int.emod_nonneg _ (by decide)⟩
  · simp [m__law_next, VL.run, g__law_next, startD, tp, h, powI, mulI, modI, fdivI, h1, hd, fin, lows, low, lows_int]
    exact ⟨_, _, _, _, ⟨rfl, rfl, rfl, rfl⟩, Int.emod_nonneg _ hm, Int.emod_lt_of_pos _ h1, hp, Int.ediv_nonneg hr (by omega), hz⟩

/-! ### equal data are told to be the same -/
noncomputable def okD : Nat → D → Bool
  | _, .non => true
  | _, .bl _ => true
  | _, .int _ => true
  | _, .str _ => true
  | n + 1, .lst ds => decide (ds.length ≤ LIM) && ds.all (okD n)
  | n + 1, .tup ds => decide (ds.length ≤ LIM) && ds.all (okD n)
  | _, _ => false
theorem eqD_nil {s : Sto} : eqD s (.lst []) (.lst []) = some (.bl true) := nrf rfl
theorem mem_rngD {lo : Int} {n : Nat} {d : D} (h : d ∈ rngD lo n) : ∃ i : Nat, i < n ∧ d = .int (lo + (i : Int)) := by
  unfold rngD at h
  obtain ⟨i, hi, e⟩ := List.mem_map.mp h
  exact ⟨i, List.mem_range.mp hi, e.symm⟩
theorem same_seq {M : FM} {s : Sto} {ds : List D} (hs : s.all (lows s.length) = true) (hl : ds.length ≤ LIM) (h : ∀ x ∈ ds, M s [x, x] = some (.bl true, s)) (C : List D → D) (hC : C = .lst ∨ C = .tup) : VL.run 3 (g__law_same M) s [C ds, C ds] = some (.bl true, s) := by
  have c2 : smallI (ds.length : Int) = true := smallI_nat hl
  rcases hC with rfl | rfl
  · have hlc := lcL_none (gt := gNm 2) (ρ := [some (D.lst ds), some (D.lst ds), none]) (s := s) (fe := fC (.int 1)) (ft := fNotT (fTru (fCall 2 M (fCons (fOp ixD (fVar 0) (fVar 2)) (fCons (fOp ixD (fVar 1) (fVar 2)) fNil))))) (ds := rngD 0 ds.length) fun d hd => by
      obtain ⟨i, hi, rfl⟩ := mem_rngD hd
      refine ⟨_, rfl, ?_⟩
      simp [atI_nat', List.getElem?_eq_getElem hi, h _ (List.getElem_mem hi)]
    simp [VL.run, g__law_same, startD, isT, fLc_ap, c2, hl, hlc, eqD_nil, isNone]
    exact fin_low hs rfl
  · have hlc := lcL_none (gt := gNm 2) (ρ := [some (D.tup ds), some (D.tup ds), none]) (s := s) (fe := fC (.int 1)) (ft := fNotT (fTru (fCall 2 M (fCons (fOp ixD (fVar 0) (fVar 2)) (fCons (fOp ixD (fVar 1) (fVar 2)) fNil))))) (ds := rngD 0 ds.length) fun d hd => by
      obtain ⟨i, hi, rfl⟩ := mem_rngD hd
      refine ⟨_, rfl, ?_⟩
      simp [atI_nat', List.getElem?_eq_getElem hi, h _ (List.getElem_mem hi)]
    simp [VL.run, g__law_same, startD, isT, fLc_ap, c2, hl, hlc, eqD_nil, isNone]
    exact fin_low hs rfl
theorem same_refl {s : Sto} (hs : s.all (lows s.length) = true) : ∀ (n : Nat) (d : D), okD n d = true → m__law_same (n + 1) s [d, d] = some (.bl true, s)
  | n, .non, _ => by
    show VL.run 3 (g__law_same (m__law_same n)) s [.non, .non] = _
    generalize m__law_same n = M
    simp [VL.run, g__law_same, startD, isT, isNone]
    exact fin_low hs rfl
  | n, .bl b, _ => by
    show VL.run 3 (g__law_same (m__law_same n)) s [.bl b, .bl b] = _
    generalize m__law_same n = M
    simp [VL.run, g__law_same, startD, isT, isNone]
    exact fin_low hs rfl
  | n, .int b, _ => by
    show VL.run 3 (g__law_same (m__law_same n)) s [.int b, .int b] = _
    generalize m__law_same n = M
    simp [VL.run, g__law_same, startD, isT, isNone]
    exact fin_low hs rfl
  | n, .str b, _ => by
    show VL.run 3 (g__law_same (m__law_same n)) s [.str b, .str b] = _
    generalize m__law_same n = M
    simp [VL.run, g__law_same, startD, isT, isNone]
    exact fin_low hs rfl
  | n + 1, .lst ds, h => by
    simp only [okD, Bool.and_eq_true, decide_eq_true_eq, List.all_eq_true] at h
    exact same_seq hs h.1 (fun x hx => same_refl hs n x (h.2 x hx)) _ (.inl rfl)
  | n + 1, .tup ds, h => by
    simp only [okD, Bool.and_eq_true, decide_eq_true_eq, List.all_eq_true] at h
    exact same_seq hs h.1 (fun x hx => same_refl hs n x (h.2 x hx)) _ (.inr rfl)
  | 0, .lst _, h => by cases h
  | 0, .tup _, h => by cases h
  | 0, .own _, h => by cases h
  | n + 1, .own _, h => by cases h
  | 0, .lck _, h => by cases h
  | n + 1, .lck _, h => by cases h
end LW
set_option Elab.async false
set_option maxRecDepth 100000
set_option maxHeartbeats 4000000
set_option linter.all false
set_option autoImplicit false
namespace LW
open PySem L2 VL
/-! ### numbers and bits -/
theorem nat_div (x k : Nat) : (x : Int) / 2 ^ k = ((x / 2 ^ k : Nat) : Int) := by
  rw [Int.natCast_ediv]
  simp
theorem div_succ (x k : Nat) : (x : Int) / 2 ^ (k + 1) = ((x / 2 : Nat) : Int) / 2 ^ k := by
  rw [nat_div, nat_div, Nat.div_div_eq_div_mul, Nat.pow_succ, Nat.mul_comm]
def popI (m : Nat) (x : Int) : Int := ((List.range m).map fun k => x / 2 ^ k % 2).sum
theorem popI_succ (m x : Nat) : popI (m + 1) (x : Int) = (x : Int) % 2 + popI m ((x / 2 : Nat) : Int) := by
  unfold popI
  rw [List.range_succ_eq_map, List.map_cons, List.sum_cons, List.map_map]
  congr 1
  · simp
  · congr 1
    apply List.map_congr_left
    intro k _
    show (x : Int) / 2 ^ (k + 1) % 2 = _
    rw [div_succ]
theorem popI_zero : ∀ m : Nat, popI m 0 = 0
  | 0 => rfl
  | m + 1 => by
    have := popI_succ m 0
    simp at this
    rw [this, popI_zero m]
theorem mod_succ (x i : Nat) : (x : Int) % 2 ^ i + (x : Int) / 2 ^ i % 2 * 2 ^ i = (x : Int) % 2 ^ (i + 1) := by
  have h1 : (x : Int) % 2 ^ i = ((x % 2 ^ i : Nat) : Int) := by simp
  have h2 : (x : Int) % 2 ^ (i + 1) = ((x % 2 ^ (i + 1) : Nat) : Int) := by simp
  rw [h1, h2, nat_div]
  have h3 := Nat.mod_mul (x := x) (a := 2 ^ i) (b := 2)
  rw [← Nat.pow_succ] at h3
  have h4 : (((x / 2 ^ i : Nat) : Int) % 2 * 2 ^ i) = ((2 ^ i * (x / 2 ^ i % 2) : Nat) : Int) := by
    rw [Nat.mul_comm]
    simp
  rw [h4, h3]
  simp
/-! ### the stores -/
abbrev Low (s : Sto) : Prop := s.all (lows s.length) = true
section
variable {s : Sto} (hs : Low s)
include hs
theorem bits_val {x : Nat} {n : Nat} (hn : n ≤ 1000) : m_bits_of s [.int x, .int n] = some (.tup ((List.range n).map fun k => .int ((x : Int) / 2 ^ k % 2)), s) := by
  have h := lcL_rng (gt := gNm 2) (ρ := [some (D.int x), some (.int n), none]) (s := s) (ft := ret true) (fe := fOp andD (fOp (i2 shrI) (fVar 0) (fVar 2)) (fC (.int 1))) (n := n) (lo := 0) (F := fun k => .int ((x : Int) / 2 ^ k % 2)) fun i hi => ⟨_, rfl, rfl, by
    simp [PyProof.Rows.bitAnd_m1]⟩
  have h2 : n ≤ LIM := le_LIM (by omega)
  simp [m_bits_of, VL.run, g_bits_of, startD, fLc_ap, smallI_nat h2, h, h2]
  refine fin_low hs ?_
  simp only [low]
  have := lows_int s.length ((List.range n).map fun k => (x : Int) / 2 ^ k % 2)
  rwa [List.map_map] at this
theorem word_val {x n : Nat} (hx : x < 2 ^ n) (hn : n ≤ 1000) : m_word_of s [.tup ((List.range n).map fun k => .int ((x : Int) / 2 ^ k % 2))] = some (.int x, s) := by
  have h2 : n ≤ LIM := le_LIM (by omega)
  have h := forL_rng (gt := gNm 2) (s := s) (fb := fAug 1 addI (fOp (i2 shlI) (fOp ixD (fVar 0) (fVar 2)) (fVar 2))) (n := n) (lo := 0)
    (I := fun i => [some (.tup ((List.range n).map fun k => .int ((x : Int) / 2 ^ k % 2))), some (.int ((x : Int) % 2 ^ i)), if i = 0 then none else some (.int ((i - 1 : Nat) : Int))]) fun i hi => ⟨_, rfl, by
      have hb : 0 ≤ (x : Int) / 2 ^ i % 2 := Int.emod_nonneg _ (by decide)
      have hb2 : (x : Int) / 2 ^ i % 2 < 2 := Int.emod_lt_of_pos _ (by decide)
      simp [atI_nat', hi, shlI_nat hb (by omega) (show i ≤ 1000000 by omega), mod_succ]⟩
  simp at h
  simp [m_word_of, VL.run, g_word_of, startD, smallI_nat h2, h]
  have e : (x : Int) % 2 ^ n = x := by
    apply Int.emod_eq_of_lt (by omega)
    have : ((2 ^ n : Nat) : Int) = 2 ^ n := by simp
    omega
  rw [e]
  exact fin_low hs rfl
theorem cut_val {x : Int} {n : Nat} (hn : n ≤ 1000) : m_cut_word s [.int x, .int n] = some (.int (x % 2 ^ n), s) := by
  simp [m_cut_word, VL.run, g_cut_word, startD, shlI_one (show n ≤ 1000000 by omega), PySem.W.kbt_mask]
  exact fin_low hs rfl
theorem one_loop : ∀ (m x fuel : Nat) (c : Int), x < 2 ^ m → m < fuel → fWhile (fBl (fOp gtD (fVar 0) (fC (.int 0)))) (fPar 1 0 (fCons (fOp addD (fVar 1) (fOp andD (fVar 0) (fC (.int 1)))) (fCons (fOp (i2 shrI) (fVar 0) (fC (.int 1))) fNil))) fuel [some (.int x), some (.int c)] s = some (.nx [some (.int 0), some (.int (c + popI m x))] s)
  | m, 0, fuel + 1, c, _, _ => by
    rw [fWhile_ap]
    simp [popI_zero]
  | 0, x + 1, fuel + 1, c, h, _ => by simp at h
  | m + 1, x + 1, fuel + 1, c, h, hf => by
    have ih := one_loop m ((x + 1) / 2) fuel (c + ((x + 1 : Nat) : Int) % 2) (by rw [Nat.pow_succ] at h; omega) (by omega)
    have hp : (0 : Int) < ((x + 1 : Nat) : Int) := by omega
    have e1 : shrI ((x + 1 : Nat) : Int) 1 = some (.int (((x + 1) / 2 : Nat) : Int)) := by
      have := shrI_nat ((x + 1 : Nat) : Int) 1
      rw [show ((1 : Nat) : Int) = 1 from rfl] at this
      rw [this]
      congr 2
    have e2 := popI_succ m (x + 1)
    rw [fWhile_ap]
    generalize ((x + 1 : Nat) : Int) = X at *
    generalize (x + 1) / 2 = Y at *
    simp [hp, PyProof.Rows.bitAnd_m1, e1]
    rw [ih, e2, Int.add_assoc]
  | _, _, 0, _, _, h => absurd h (Nat.not_lt_zero _)
theorem one_val {x : Nat} (h : x < 2 ^ 20) : m_one_count s [.int x] = some (.int (popI 20 x), s) := by
  have := one_loop hs 20 x 64 0 h (by decide)
  simp [m_one_count, VL.run, g_one_count, startD, this]
  exact fin_low hs rfl
def cntF (j n L : Nat) : Nat := ((List.range n).filter fun i => decide ((2 : Int) ^ (j + i) ≤ L)).length
omit hs in
theorem cnt_succ (j n L : Nat) : cntF j (n + 1) L = (if (2 : Int) ^ j ≤ L then 1 else 0) + cntF (j + 1) n L := by
  unfold cntF
  rw [List.range_succ_eq_map, List.filter_cons, List.filter_map]
  have e : ((fun i => decide ((2 : Int) ^ (j + i) ≤ (L : Int))) ∘ Nat.succ) = fun i => decide ((2 : Int) ^ (j + 1 + i) ≤ (L : Int)) := by
    funext i
    show decide ((2 : Int) ^ (j + (i + 1)) ≤ (L : Int)) = _
    rw [show j + (i + 1) = j + 1 + i by omega]
  rw [e]
  split
  · rename_i h
    simp at h
    rw [List.length_cons, List.length_map, if_pos h, Nat.add_comm]
  · rename_i h
    simp at h
    rw [List.length_map, if_neg (by omega), Nat.zero_add]
omit hs in
theorem pow_i (k : Nat) : ((2 ^ k : Nat) : Int) = 2 ^ k := by simp
omit hs in
theorem cnt_zero (j n L : Nat) (h : L < 2 ^ j) : cntF j n L = 0 := by
  unfold cntF
  rw [List.length_eq_zero_iff, List.filter_eq_nil_iff]
  intro i _
  have h1 : 2 ^ j ≤ 2 ^ (j + i) := Nat.pow_le_pow_right (by decide) (Nat.le_add_right _ _)
  have := pow_i (j + i)
  simp
  omega
theorem wid_loop (L : Nat) : ∀ (n j fuel : Nat), n < fuel → L < 2 ^ (j + n) → fWhile (fBl (fOp gtD (fOp (i2 shrI) (fVar 0) (fVar 1)) (fC (.int 0)))) (fAug 1 addI (fC (.int 1))) fuel [some (.int L), some (.int j)] s = some (.nx [some (.int L), some (.int ((j + cntF j n L : Nat) : Int))] s)
  | n, j, 0, h, _ => absurd h (Nat.not_lt_zero _)
  | n, j, fuel + 1, hf, hL => by
    by_cases h : 2 ^ j ≤ L
    · cases n with
      | zero => simp at hL; omega
      | succ n =>
        have ih := wid_loop L n (j + 1) fuel (by omega) (by rw [show j + 1 + n = j + (n + 1) by omega]; exact hL)
        have hp : 0 < (L : Int) / 2 ^ j := by
          rw [nat_div]
          have : 0 < L / 2 ^ j := Nat.div_pos h (Nat.pow_pos (by decide))
          omega
        have hi : (2 : Int) ^ j ≤ L := by have := pow_i j; omega
        rw [fWhile_ap]
        simp [hp]
        have e : ((j : Int) + 1) = ((j + 1 : Nat) : Int) := by omega
        rw [e, ih, cnt_succ, if_pos hi]
        simp
        omega
    · have hp : ¬ (0 : Int) < (L : Int) / 2 ^ j := by
        rw [nat_div, Nat.div_eq_of_lt (by omega)]
        simp
      rw [fWhile_ap, cnt_zero j n L (by omega)]
      simp [hp]
theorem wid_val {x : Nat} (h : x < 2 ^ 20) : m_number_width s [.int x] = some (.int ((1 + cntF 1 29 x : Nat) : Int), s) := by
  have h2 : x < 2 ^ (1 + 29) := Nat.lt_of_lt_of_le h (by decide)
  have := wid_loop hs x 29 1 64 (by decide) h2
  rw [show ((1 : Nat) : Int) = 1 from rfl] at this
  simp [m_number_width, VL.run, g_number_width, startD, this]
  exact fin_low hs rfl
def isCnt : D → Bool
  | .int i => decide (0 ≤ i)
  | _ => false
def isWid : D → Bool
  | .int i => decide (0 ≤ i) && (decide (1 ≤ i) && decide (i ≤ 8))
  | _ => false
def isWrd (k : Nat) : D → Bool
  | .int i => decide (0 ≤ i) && decide (i < 2 ^ k)
  | _ => false
theorem cnt_val (d : D) : m_is_count s [d] = some (.bl (isCnt d), s) := by
  cases d <;> simp [m_is_count, VL.run, g_is_count, startD, isT, isCnt] <;> exact fin_low hs rfl
theorem wd_val (d : D) : m_is_width s [d] = some (.bl (isWid d), s) := by
  have hc := cnt_val hs
  cases d with
  | int i =>
    by_cases h : 0 ≤ i
    · by_cases h1 : 1 ≤ i
      · simp [m_is_width, VL.run, g_is_width, startD, hc, isCnt, isWid, h, h1]
        exact fin_low hs rfl
      · simp [m_is_width, VL.run, g_is_width, startD, hc, isCnt, isWid, h, h1]
        exact fin_low hs rfl
    · simp [m_is_width, VL.run, g_is_width, startD, hc, isCnt, isWid, h]
      exact fin_low hs rfl
  | _ => simp [m_is_width, VL.run, g_is_width, startD, hc, isCnt, isWid]; exact fin_low hs rfl
theorem wrd_val (d : D) {k : Nat} (hk : k ≤ 1000) : m_is_word s [d, .int k] = some (.bl (isWrd k d), s) := by
  have hc := cnt_val hs
  cases d with
  | int i =>
    by_cases h : 0 ≤ i
    · simp [m_is_word, VL.run, g_is_word, startD, hc, isCnt, isWrd, h, shlI_one (show k ≤ 1000000 by omega)]
      exact fin_low hs rfl
    · simp [m_is_word, VL.run, g_is_word, startD, hc, isCnt, isWrd, h]
      exact fin_low hs rfl
  | _ => simp [m_is_word, VL.run, g_is_word, startD, hc, isCnt, isWrd]; exact fin_low hs rfl
end
end LW
set_option Elab.async false
set_option maxRecDepth 100000
set_option maxHeartbeats 4000000
set_option linter.all false
set_option autoImplicit false
namespace LW
open PySem L2 VL
@[simp] theorem allD_map {s : Sto} {α : Type} (l : List α) (f : α → Bool) : allD s (.lst (l.map fun x => D.bl (f x))) = some (.bl (l.all f)) := by
  unfold allD itL
  simp
@[simp] theorem sumD_map {s : Sto} {α : Type} (l : List α) (f : α → Int) : sumD s (.lst (l.map fun x => D.int (f x))) = some (.int (l.map f).sum) := by
  unfold sumD itL
  simp
def isWrds (k : Nat) : D → Bool
  | .tup ds => ds.all (isWrd k)
  | _ => false
def isBts (n : Nat) : D → Bool
  | .tup ds => decide (ds.length = n) && ds.all (isWrd 1)
  | _ => false
section
variable {s : Sto} (hs : Low s)
include hs
theorem wrds_val (d : D) {k : Nat} (hk : k ≤ 1000) (hl : ∀ ds, d = .tup ds → ds.length ≤ LIM) : m_are_words s [d, .int k] = some (.bl (isWrds k d), s) := by
  have hw := fun d => wrd_val hs d hk
  cases d with
  | tup ds =>
    have h := lcL_map (gt := gNm 2) (ρ := [some (D.tup ds), some (.int k), none]) (s := s) (ft := ret true) (fe := fCall 2 m_is_word (fCons (fVar 2) (fCons (fVar 1) (fNil)))) (ds := ds) (F := fun d => .bl (isWrd k d)) fun d hd => ⟨_, rfl, rfl, by simp [hw]⟩
    have hl' := hl ds rfl
    simp [m_are_words, VL.run, g_are_words, startD, isT, fLc_ap, h, hl', isWrds]
    exact fin_low hs rfl
  | _ => simp [m_are_words, VL.run, g_are_words, startD, isT, isWrds]; exact fin_low hs rfl
theorem bts_val (d : D) (n : Nat) (hl : ∀ ds, d = .tup ds → ds.length ≤ LIM) : m_is_bits s [d, .int n] = some (.bl (isBts n d), s) := by
  have hw := fun d => wrd_val hs d (k := 1) (by decide)
  rw [show ((1 : Nat) : Int) = 1 from rfl] at hw
  cases d with
  | tup ds =>
    have h := lcL_map (gt := gNm 2) (ρ := [some (D.tup ds), some (.int n), none]) (s := s) (ft := ret true) (fe := fCall 2 m_is_word (fCons (fVar 2) (fCons (fC (.int 1)) (fNil)))) (ds := ds) (F := fun d => .bl (isWrd 1 d)) fun d hd => ⟨_, rfl, rfl, by simp [hw]⟩
    have hl' := hl ds rfl
    by_cases hn : ds.length = n
    · simp [m_is_bits, VL.run, g_is_bits, startD, isT, fLc_ap, h, hl', isBts, hn, show n ≤ LIM from hn ▸ hl']
      exact fin_low hs rfl
    · have hn' : ¬ ((ds.length : Int) = (n : Int)) := by omega
      simp [m_is_bits, VL.run, g_is_bits, startD, isT, fLc_ap, h, hl', isBts, hn, hn']
      exact fin_low hs rfl
  | _ => simp [m_is_bits, VL.run, g_is_bits, startD, isT, isBts]; exact fin_low hs rfl
end
theorem low_tp (ns : List Int) (p r z : Int) : Low [tp ns p r z] := by
  show [tp ns p r z].all (lows 1) = true
  simp [lows_tp]
/-- several draws -/
theorem row_ok (ns : List Int) {w : Nat} (hw : w ≤ 8) : ∀ (n : Nat) (lo p r z : Int), 0 ≤ p → 0 ≤ r → 0 ≤ z →
    ∃ (xs : List Int) (p' r' z' : Int), (∀ ρ : Rho, ρ[1]? = some (some (.own 0)) → ρ[2]? = some (some (.int w)) → lcL (gNm 12) (VL.ret true) (fCall 2 m__law_next (fCons (fVar 1) (fCons (fOp (i2 shlI) (fC (.int 1)) (fVar 2)) (fNil)))) none ρ (rngD lo n) [tp ns p r z] = some (xs.map D.int, [tp ns p' r' z'])) ∧ xs.length = n ∧ ∀ x ∈ xs, 0 ≤ x ∧ x < (2 : Int) ^ w
  | 0, lo, p, r, z, _, _, _ => ⟨[], p, r, z, fun ρ _ _ => by rw [show rngD lo 0 = [] from rfl, lcL_nil, chk_none, if_pos rfl]; rfl, rfl, fun _ h => nomatch h⟩
  | n + 1, lo, p, r, z, hp, hr, hz => by
    have hpw := pow_i w
    have hle : 2 ^ w ≤ 2 ^ 8 := Nat.pow_le_pow_right (by decide) hw
    have hpos : 0 < 2 ^ w := Nat.pow_pos (by decide)
    obtain ⟨d, p1, r1, z1, e, hd0, hd1, hp1, hr1, hz1⟩ := next_ok ns p r z (2 ^ w) (by omega) (by omega) hp hr hz
    obtain ⟨xs, p2, r2, z2, e2, hl, hx⟩ := row_ok ns hw n (lo + 1) p1 r1 z1 hp1 hr1 hz1
    refine ⟨d :: xs, p2, r2, z2, fun ρ h1 h2 => ?_, by rw [List.length_cons, hl], fun x hx' => ?_⟩
    · rw [rngD_succ, lcL_cons]
      simp [h1, h2, e, e2 ρ h1 h2, shlI_one (show w ≤ 1000000 by omega)]
    · rcases List.mem_cons.mp hx' with h | h
      · rw [h]; exact ⟨hd0, hd1⟩
      · exact hx x h
/-- calls along a list -/
theorem lc_one {s : Sto} {m : FM} {F : D → D} {ρ : Rho} {i : Nat} (hi : i < ρ.length) (h : ∀ d, m s [d] = some (F d, s)) (ds : List D) : lcL (gNm i) (ret true) (fCall 1 m (fCons (fVar i) fNil)) none ρ ds s = some (ds.map F, s) :=
  lcL_map fun d _ => ⟨_, rfl, rfl, by simp [hi, h]⟩
theorem lc_two {s : Sto} {m : FM} {F : D → D} {ρ : Rho} {i j : Nat} {x : D} (hi : i < ρ.length) (hij : i ≠ j) (hj : ρ[j]? = some (some x)) (ds : List D) (h : ∀ d ∈ ds, m s [d, x] = some (F d, s)) : lcL (gNm i) (ret true) (fCall 2 m (fCons (fVar i) (fCons (fVar j) fNil))) none ρ ds s = some (ds.map F, s) :=
  lcL_map fun d hd => ⟨_, rfl, rfl, by simp [hi, hj, List.getElem?_set_ne hij, h d hd]⟩
theorem dvOk_pow {k : Nat} (h : k ≤ 29) : dvOk ((2 : Int) ^ k) = true := by
  have h1 := pow_i k
  have hle : 2 ^ k ≤ 2 ^ 29 := Nat.pow_le_pow_right (by decide) h
  have hpos : 0 < 2 ^ k := Nat.pow_pos (by decide)
  exact (dvOk_iff _).mpr ⟨by omega, by omega⟩
/-! ### the law's own comprehensions -/
section
variable {s : Sto} {ρ : Rho}
abbrev Bits (x n : Nat) : List D := (List.range n).map fun k => D.int ((x : Int) / 2 ^ k % 2)
theorem lc_bits {x n : Nat} (hn : n ≤ 20) (h1 : 12 < ρ.length) (h3 : ρ[3]? = some (some (.int x))) : lcL (gNm 12) (VL.ret true) (fOp andD (fOp (i2 fdivI) (fVar 3) (fOp (i2 shlI) (fC (.int 1)) (fVar 12))) (fC (.int 1))) none ρ (rngD 0 n) s = some (Bits x n, s) :=
  lcL_rng fun i hi => ⟨_, rfl, rfl, by
    simp [h1, h3, shlI_one (show i ≤ 1000000 by omega), fdivI, dvOk_pow (show i ≤ 29 by omega), PyProof.Rows.bitAnd_m1]⟩
theorem lc_pop {x n : Nat} (h1 : 12 < ρ.length) (h3 : ρ[6]? = some (some (.int x))) : lcL (gNm 12) (VL.ret true) (fOp andD (fOp (i2 shrI) (fVar 6) (fVar 12)) (fC (.int 1))) none ρ (rngD 0 n) s = some (Bits x n, s) :=
  lcL_rng fun i hi => ⟨_, rfl, rfl, by
    simp [h1, h3, PyProof.Rows.bitAnd_m1]⟩
theorem lc_size {x n : Nat} (hn : n ≤ 100) (h1 : 12 < ρ.length) (h3 : ρ[6]? = some (some (.int x))) : lcL (gNm 12) (fBl (fOp geD (fVar 6) (fOp (i2 shlI) (fC (.int 1)) (fVar 12)))) (fVar 12) none ρ (rngD 1 n) s = some (((List.range n).filter fun (i : Nat) => decide ((2 : Int) ^ (1 + i) ≤ x)).map fun (i : Nat) => D.int (1 + (i : Int)), s) :=
  lcL_if fun i hi => ⟨_, rfl, by
    have e : shlI 1 ((1 : Int) + (i : Int)) = some (.int (2 ^ (1 + i))) := by
      rw [show (1 : Int) + (i : Int) = ((1 + i : Nat) : Int) by omega]
      exact shlI_one (by omega)
    simp only [fBl_ap, fOp_ap, bnd_ap, fVar_ap, fC_ap, got_ap, i2_int, gNm_ap]
    rw [List.getElem?_set_ne (by decide), h3, List.getElem?_set_self h1]
    simp [e], fun _ => by
    simp [h1]⟩
end
theorem len_size (x n : Nat) : (((List.range n).filter fun (i : Nat) => decide ((2 : Int) ^ (1 + i) ≤ x)).map fun (i : Nat) => D.int (1 + (i : Int))).length = cntF 1 n x := by
  rw [List.length_map]
  rfl
/-! ### rows of bits and of words, judged -/
theorem bits_len (x n : Nat) : (Bits x n).length = n := by simp
theorem bits_all (x n : Nat) : (Bits x n).all (isWrd 1) = true := by
  rw [List.all_eq_true]
  intro d hd
  obtain ⟨k, _, rfl⟩ := List.mem_map.mp hd
  have h0 : 0 ≤ (x : Int) / 2 ^ k % 2 := Int.emod_nonneg _ (by decide)
  have h1 : (x : Int) / 2 ^ k % 2 < 2 := Int.emod_lt_of_pos _ (by decide)
  simp [isWrd, h0, h1]
theorem bts_yes (x n : Nat) : isBts n (.tup (Bits x n)) = true := by
  simp only [isBts, bits_len, bits_all, decide_true, Bool.and_self]
theorem bts_len {n : Nat} {ds : List D} (h : ds.length ≠ n) : isBts n (.tup ds) = false := by
  simp only [isBts, decide_eq_false h, Bool.false_and]
theorem bts_last {n : Nat} {ds : List D} {d : D} (h : isWrd 1 d = false) : isBts n (.tup (ds ++ [d])) = false := by
  simp only [isBts, List.all_append, List.all_cons, h, Bool.false_and, Bool.and_false]
theorem cut_tail (ds : List D) : cutD ds (some 1) none = ds.drop 1 := by
  unfold cutD
  have e : HT.sIx ds.length 0 (some 1) = min 1 ds.length := HT.sIx_nat _ _ 1
  rw [e, HT.sIx_none]
  cases ds with
  | nil => rfl
  | cons a t => simp
theorem cut_init_len (ds : List D) : (cutD ds none (some (-1))).length ≤ ds.length := by
  unfold cutD
  rw [List.length_take, List.length_drop]
  omega
theorem wrds_int {k : Nat} {xs : List Int} (h : ∀ x ∈ xs, 0 ≤ x ∧ x < (2 : Int) ^ k) : isWrds k (.tup (xs.map D.int)) = true := by
  simp only [isWrds, List.all_map, List.all_eq_true]
  intro x hx
  have := h x hx
  simp [isWrd, this.1, this.2]
theorem wrds_last {k : Nat} {ds : List D} {d : D} (h : isWrd k d = false) : isWrds k (.tup (ds ++ [d])) = false := by
  simp only [isWrds, List.all_append, List.all_cons, h, Bool.false_and, Bool.and_false]
end LW
set_option Elab.async false
set_option maxRecDepth 100000
set_option maxHeartbeats 4000000
set_option linter.all false
set_option autoImplicit false
namespace LW
open PySem L2 VL
theorem law_val (ns : List Int) : m_law [] [.lck (ns.map D.int)] = some (.bl true, []) := by
  obtain ⟨d1, p1, r1, z1, e1, hd0, hd1, hp1, hr1, hz1⟩ := next_ok ns 0 0 1 8 (by decide) (by decide) (by decide) (by decide) (by decide)
  obtain ⟨w, hw⟩ : ∃ w : Nat, 1 + d1 = (w : Int) := ⟨(1 + d1).toNat, by omega⟩
  have hw1 : 1 ≤ w := by omega
  have hw8 : w ≤ 8 := by omega
  have hpw := pow_i w
  have hle : 2 ^ w ≤ 2 ^ 8 := Nat.pow_le_pow_right (by decide) hw8
  have hpos : 0 < 2 ^ w := Nat.pow_pos (by decide)
  have hpos' : (0 : Int) < 2 ^ w := by omega
  obtain ⟨d2, p2, r2, z2, e2, h20, h21, hp2, hr2, hz2⟩ := next_ok ns p1 r1 z1 (2 ^ w) (by omega) (by omega) hp1 hr1 hz1
  obtain ⟨d3, p3, r3, z3, e3, h30, h31, hp3, hr3, hz3⟩ := next_ok ns p2 r2 z2 4096 (by omega) (by omega) hp2 hr2 hz2
  obtain ⟨d4, p4, r4, z4, e4, h40, h41, hp4, hr4, hz4⟩ := next_ok ns p3 r3 z3 1048576 (by omega) (by omega) hp3 hr3 hz3
  obtain ⟨x, rfl⟩ : ∃ x : Nat, d2 = (x : Int) := ⟨d2.toNat, by omega⟩
  obtain ⟨L, rfl⟩ : ∃ x : Nat, d4 = (x : Int) := ⟨d4.toNat, by omega⟩
  obtain ⟨d5, p5, r5, z5, e5, h50, h51, hp5, hr5, hz5⟩ := next_ok ns p4 r4 z4 4 (by omega) (by omega) hp4 hr4 hz4
  have hx : x < 2 ^ w := by omega
  have hL : L < 2 ^ 20 := by omega
  have hs := low_tp ns p4 r4 z4
  have f0 := fOwn_ap (ρ := [some (.lck (ns.map D.int)), none, none, none, none, none, none, none, none, none, none, none, none, none]) (s := []) (r := fCons (fCB (c1 listD) (fCons (fVar 0) (fNil))) (fCons (fC (.int 0)) (fCons (fC (.int 0)) (fCons (fC (.int 1)) (fNil)))))
  have g1 : m__law_next [[.lst (ns.map D.int), .int 0, .int 0, .int 1]] [.own 0, .int 8] = some (D.int d1, [tp ns p1 r1 z1]) := e1
  have hwL : w ≤ LIM := le_LIM (by omega)
  have hsm : smallI (w : Int) = true := smallI_nat hwL
  have b1 := bits_val hs (x := x) (n := w) (by omega)
  have b2 := word_val hs hx (by omega)
  have b3 := fun y : Int => cut_val hs (x := y) (n := w) (by omega)
  have b4 := one_val hs hL
  have b5 := wid_val hs hL
  have l1 := fun (s : Sto) (ρ : Rho) (a : 12 < ρ.length) (b : ρ[3]? = some (some (.int x))) => lc_bits (s := s) (n := w) (by omega) a b
  have l2 := fun (s : Sto) (ρ : Rho) (a : 12 < ρ.length) (b : ρ[6]? = some (some (.int L))) => lc_pop (s := s) (n := 20) a b
  have l3 := fun (s : Sto) (ρ : Rho) (a : 12 < ρ.length) (b : ρ[6]? = some (some (.int L))) => lc_size (s := s) (n := 29) (by decide) a b
  simp only [popI] at b4
  simp only [cntF] at b5
  have q1 := cnt_val hs
  have q2 := wd_val hs
  have q3 := fun d => wrd_val hs d (k := w) (by omega)
  have m1 := fun (ρ : Rho) (a : 13 < ρ.length) (ds : List D) => lc_one (s := [tp ns p4 r4 z4]) (i := 13) a q1 ds
  have m2 := fun (ρ : Rho) (a : 13 < ρ.length) (ds : List D) => lc_one (s := [tp ns p4 r4 z4]) (i := 13) a q2 ds
  have m3 := fun (ρ : Rho) (a : 13 < ρ.length) (b : ρ[2]? = some (some (.int w))) (ds : List D) => lc_two (s := [tp ns p4 r4 z4]) (i := 13) (j := 2) a (by decide) b ds fun d _ => q3 d
  have k1 : (1 : Int) ≤ 2 ^ w := by omega
  have k2 : (2 : Int) ^ w - 1 < 2 ^ w := by omega
  have v1 := bts_yes x w
  have v3 : isBts w (.tup (Bits x w ++ [.int 0])) = false := bts_len (by simp)
  have v4 : isBts w (.tup (cutD (Bits x w) (some 1) none)) = false := bts_len (by rw [cut_tail, List.length_drop, bits_len]; omega)
  have v6 : isBts w (.tup (cutD (Bits x w) none (some (-1)) ++ [.int 2])) = false := bts_last rfl
  have v7 : isBts w (.tup (cutD (Bits x w) none (some (-1)) ++ [.bl true])) = false := bts_last rfl
  have v8 : isBts w (.tup (cutD (Bits x w) none (some (-1)) ++ [.int (-1)])) = false := bts_last rfl
  have v9 : ∀ ds, isBts w (.lst ds) = false := fun _ => rfl
  have v10 : isBts w .non = false := rfl
  have c1 : (cutD (Bits x w) none (some (-1))).length + 1 ≤ LIM := le_LIM (by have := cut_init_len (Bits x w); rw [bits_len] at this; omega)
  have c2 : (cutD (Bits x w) (some 1) none).length ≤ LIM := le_LIM (by rw [cut_tail, List.length_drop, bits_len]; omega)
  have c3 : w + 1 ≤ LIM := le_LIM (by omega)
  have m4 := fun (ρ : Rho) (a : 13 < ρ.length) (b : ρ[2]? = some (some (.int w))) (ds : List D) (hd : ∀ d ∈ ds, ∀ es, d = .tup es → es.length ≤ LIM) => lc_two (s := [tp ns p4 r4 z4]) (m := m_is_bits) (F := fun d => .bl (isBts w d)) (i := 13) (j := 2) a (by decide) b ds fun d h => bts_val hs d w (hd d h)
  simp only [Bits] at v1 v3 v4 v6 v7 v8 c1 c2
  obtain ⟨xs, p6, r6, z6, rw6, hlen, hxs⟩ := row_ok ns hw8 d5.toNat 0 p5 r5 z5 hp5 hr5 hz5
  have hs6 := low_tp ns p6 r6 z6
  have hlen2 : xs.length ≤ LIM := le_LIM (by omega)
  have hlen3 : xs.length + 1 ≤ LIM := le_LIM (by omega)
  have hsm5 : smallI d5 = true := smallI_of (by omega) (by omega)
  have hd5 : d5.toNat ≤ LIM := le_LIM (by omega)
  have y1 : isWrds w (.tup (xs.map D.int)) = true := wrds_int hxs
  have y3 : isWrds w (.tup (xs.map D.int ++ [.int (2 ^ w)])) = false := wrds_last (by simp [isWrd])
  have y4 : isWrds w (.tup (xs.map D.int ++ [.bl true])) = false := wrds_last rfl
  have y5 : isWrds w (.tup (xs.map D.int ++ [.int (-1)])) = false := wrds_last rfl
  have y6 : ∀ ds, isWrds w (.lst ds) = false := fun _ => rfl
  have y7 : isWrds w .non = false := rfl
  have y8 : isWrds w (.tup []) = true := rfl
  have m5 := fun (ρ : Rho) (a : 13 < ρ.length) (b : ρ[2]? = some (some (.int w))) (ds : List D) (hd : ∀ d ∈ ds, ∀ es, d = .tup es → es.length ≤ LIM) => lc_two (s := [tp ns p6 r6 z6]) (m := m_are_words) (F := fun d => .bl (isWrds w d)) (i := 13) (j := 2) a (by decide) b ds fun d h => wrds_val hs6 d (by omega) (hd d h)
  have hsame6 := fun d hd => same_refl hs6 7 d hd
  have hsame := fun d hd => same_refl hs 7 d hd
  simp [m_law, VL.run, g_law, startD, g1, hw, shlI_one (show w ≤ 1000000 by omega), e2, e3, e4, hsm, hwL, fLc_ap, l1, l2, l3, b1, b2, b3, b4, b5, modI, hpos', hsame, Bits, okD, m1, m2, m3, isCnt, isWid, isWrd, h21, k1, k2, v1, v3, v4, v6, v7, v8, v9, v10, c1, c2, c3, m4, e5, hsm5, hd5, rw6, hlen2, hlen3, y1, y3, y4, y5, y6, y7, y8, m5, hsame6, fin, low]
end LW
set_option Elab.async false
set_option maxRecDepth 100000
set_option maxHeartbeats 4000000
set_option linter.all false
set_option autoImplicit false
namespace LW
open PySem L2 VL
def top (i : Nat) : Stmt := PySem.Challenge.pw_citywright_k01_whole_words_and_bits.main.body.getD i (.Pass ⟨0, 0, 0, 0⟩)
abbrev s__law_next : Stmt := top 13
abbrev N__law_next : List Str := ["tape", "many", "rest", "cell"]
abbrev s__law_same : Stmt := top 14
abbrev N__law_same : List Str := ["told", "due", "k"]
abbrev s_bits_of : Stmt := top 7
abbrev N_bits_of : List Str := ["word", "width", "k"]
abbrev s_word_of : Stmt := top 8
abbrev N_word_of : List Str := ["bits", "total", "k"]
abbrev s_cut_word : Stmt := top 6
abbrev N_cut_word : List Str := ["value", "width"]
abbrev s_one_count : Stmt := top 10
abbrev N_one_count : List Str := ["word", "found"]
abbrev s_number_width : Stmt := top 11
abbrev N_number_width : List Str := ["number", "size"]
abbrev s_is_count : Stmt := top 2
abbrev N_is_count : List Str := ["value"]
abbrev s_is_word : Stmt := top 4
abbrev N_is_word : List Str := ["value", "width"]
abbrev s_are_words : Stmt := top 5
abbrev N_are_words : List Str := ["value", "width", "one"]
abbrev s_is_bits : Stmt := top 9
abbrev N_is_bits : List Str := ["value", "size", "one"]
abbrev s_is_width : Stmt := top 3
abbrev N_is_width : List Str := ["value"]
abbrev s_law : Stmt := top 15
abbrev N_law : List Str := ["script", "tape", "width", "word", "other", "bits", "large", "size", "told", "odd", "some", "row", "k", "one"]
structure Adr where
  f__law_next : Addr
  fd__law_next : FuncData
  f__law_same : Addr
  fd__law_same : FuncData
  f_bits_of : Addr
  fd_bits_of : FuncData
  f_word_of : Addr
  fd_word_of : FuncData
  f_cut_word : Addr
  fd_cut_word : FuncData
  f_one_count : Addr
  fd_one_count : FuncData
  f_number_width : Addr
  fd_number_width : FuncData
  f_is_count : Addr
  fd_is_count : FuncData
  f_is_word : Addr
  fd_is_word : FuncData
  f_are_words : Addr
  fd_are_words : FuncData
  f_is_bits : Addr
  fd_is_bits : FuncData
  f_is_width : Addr
  fd_is_width : FuncData
  f_law : Addr
  fd_law : FuncData
  t_WIDEST : Tok
structure Txt (K : PySem.W.Frag) (mg : Str → Option Value) (a : Adr) : Prop where
  n_len : mg "len" = none
  n_abs : mg "abs" = none
  n_int : mg "int" = none
  n_isinstance : mg "isinstance" = none
  n_bool : mg "bool" = none
  n_str : mg "str" = none
  n_list : mg "list" = none
  n_tuple : mg "tuple" = none
  n_range : mg "range" = none
  n_all : mg "all" = none
  n_sum : mg "sum" = none
  c_WIDEST : mg "WIDEST" = some (.int 8 a.t_WIDEST)
  m__law_next : mg "_law_next" = some (.ref a.f__law_next)
  F__law_next : Fun K "_law_next" "_law_next" s__law_next a.f__law_next a.fd__law_next
  b__law_next : Binds K a.fd__law_next ["tape", "many"] []
  m__law_same : mg "_law_same" = some (.ref a.f__law_same)
  F__law_same : Fun K "_law_same" "_law_same" s__law_same a.f__law_same a.fd__law_same
  b__law_same : Binds K a.fd__law_same ["told", "due"] []
  m_bits_of : mg "bits_of" = some (.ref a.f_bits_of)
  F_bits_of : Fun K "bits_of" "bits_of" s_bits_of a.f_bits_of a.fd_bits_of
  b_bits_of : Binds K a.fd_bits_of ["word", "width"] []
  m_word_of : mg "word_of" = some (.ref a.f_word_of)
  F_word_of : Fun K "word_of" "word_of" s_word_of a.f_word_of a.fd_word_of
  b_word_of : Binds K a.fd_word_of ["bits"] []
  m_cut_word : mg "cut_word" = some (.ref a.f_cut_word)
  F_cut_word : Fun K "cut_word" "cut_word" s_cut_word a.f_cut_word a.fd_cut_word
  b_cut_word : Binds K a.fd_cut_word ["value", "width"] []
  m_one_count : mg "one_count" = some (.ref a.f_one_count)
  F_one_count : Fun K "one_count" "one_count" s_one_count a.f_one_count a.fd_one_count
  b_one_count : Binds K a.fd_one_count ["word"] []
  m_number_width : mg "number_width" = some (.ref a.f_number_width)
  F_number_width : Fun K "number_width" "number_width" s_number_width a.f_number_width a.fd_number_width
  b_number_width : Binds K a.fd_number_width ["number"] []
  m_is_count : mg "is_count" = some (.ref a.f_is_count)
  F_is_count : Fun K "is_count" "is_count" s_is_count a.f_is_count a.fd_is_count
  b_is_count : Binds K a.fd_is_count ["value"] []
  m_is_word : mg "is_word" = some (.ref a.f_is_word)
  F_is_word : Fun K "is_word" "is_word" s_is_word a.f_is_word a.fd_is_word
  b_is_word : Binds K a.fd_is_word ["value", "width"] []
  m_are_words : mg "are_words" = some (.ref a.f_are_words)
  F_are_words : Fun K "are_words" "are_words" s_are_words a.f_are_words a.fd_are_words
  b_are_words : Binds K a.fd_are_words ["value", "width"] []
  m_is_bits : mg "is_bits" = some (.ref a.f_is_bits)
  F_is_bits : Fun K "is_bits" "is_bits" s_is_bits a.f_is_bits a.fd_is_bits
  b_is_bits : Binds K a.fd_is_bits ["value", "size"] []
  m_is_width : mg "is_width" = some (.ref a.f_is_width)
  F_is_width : Fun K "is_width" "is_width" s_is_width a.f_is_width a.fd_is_width
  b_is_width : Binds K a.fd_is_width ["value"] []
  m_law : mg "law" = some (.ref a.f_law)
  F_law : Fun K "law" "law" s_law a.f_law a.fd_law
  b_law : Binds K a.fd_law ["script"] []
section
variable {P : Program} {w : World} {K : PySem.W.Frag} {mg : Str → Option Value} {base : Heap} {a : Adr}
theorem sc__law_next : FnScope N__law_next ["tape", "many"] (defScope s__law_next) := ⟨rfl, rfl, rfl, by decide +kernel, rfl, by decide +kernel, by decide +kernel⟩
theorem ok__law_next (T : Txt K mg a) : FnOk P w K mg base CX0 1 a.f__law_next a.fd__law_next ["tape", "many"] (spF K 2 m__law_next) := by
  have ND := sc__law_next.nd
  exact fn_ok (k := 0) T.F__law_next sc__law_next (fun cdv A outer s H E hr => dss_cons (ds_set 2 ND (de_ix (de_var 0) (de_int))) (dss_cons (ds_if (dt_cmp (op_eqU hr.units) ops_eq (de_var 2) (de_int) (nomark _)) (dss_cons (ds_set 3 ND (de_int)) (dss_cons (ds_if (dt_cmp op_lt ops_lt (de_ix (de_var 0) (de_int)) (de_callB call_len cs_len T.n_len PySem.boot_len (da_cons (de_ix (de_var 0) (de_int)) (da_nil))) (nomark _)) (dss_cons (ds_set 3 ND (de_callB call_abs cs_abs T.n_abs PyProof.Rows.boot_abs (da_cons (de_callTy call_int1 cs_int T.n_int PyProof.Rows.boot_int (da_cons (de_ix (de_ix (de_var 0) (de_int)) (de_ix (de_var 0) (de_int))) (da_nil))) (da_nil)))) (dss_one (ds_sub (de_bin op_add4 ops_add (de_ix (de_var 0) (de_int)) (de_int)) (de_var 0) (de_int)))) (dss_nil)) (dss_cons (ds_set 2 ND (de_var 3)) (dss_one (ds_if (dt_cmp op_lt ops_lt (de_var 3) (de_bin op_pow ops_pow (de_int) (de_int)) (nomark _)) (dss_cons (ds_sub (de_bin op_mod ops_mod (de_callTy call_int1 cs_int T.n_int PyProof.Rows.boot_int (da_cons (de_bin op_add4 ops_add (de_bin op_add4 ops_add (de_bin op_mul2 ops_mul (de_ix (de_var 0) (de_int)) (de_int)) (de_bin op_mul2 ops_mul (de_var 3) (de_int))) (de_int)) (da_nil))) (de_int)) (de_var 0) (de_int)) (dss_one (ds_ret (de_bin op_mod ops_mod (de_bin op_mod ops_mod (de_callTy call_int1 cs_int T.n_int PyProof.Rows.boot_int (da_cons (de_bin op_mul2 ops_mul (de_callTy call_int1 cs_int T.n_int PyProof.Rows.boot_int (da_cons (de_bin op_fdiv ops_fdiv (de_ix (de_var 0) (de_int)) (de_int)) (da_nil))) (de_int)) (da_nil))) (de_int)) (de_var 1))))) (dss_nil)))))) (dss_nil)) (dss_cons (ds_sub (de_bin op_fdiv ops_fdiv (de_var 2) (de_var 1)) (de_var 0) (de_int)) (dss_one (ds_ret (de_bin op_mod ops_mod (de_callTy call_int1 cs_int T.n_int PyProof.Rows.boot_int (da_cons (de_var 2) (da_nil))) (de_var 1))))))) (fun _ _ _ _ h => h)
theorem sc__law_same : FnScope N__law_same ["told", "due"] (defScope s__law_same) := ⟨rfl, rfl, rfl, by decide +kernel, rfl, by decide +kernel, by decide +kernel⟩
theorem ok__law_same : ∀ (n : Nat) (T : Txt K mg a), FnOk P w K mg base CX0 (0 + n) a.f__law_same a.fd__law_same ["told", "due"] (spF K 2 (m__law_same n))
  | 0, _ => fn_none rfl
  | n + 1, T => by
    have G_rec := ok__law_same n T
    have ND := sc__law_same.nd
    exact fn_ok (k := 0 + n) T.F__law_same sc__law_same (fun cdv A outer s H E hr => dss_cons (ds_if (dt_cmp op_isN ops_isN (de_var 1) (de_non) (nomark _)) (dss_one (ds_ret (de_cmp op_isN ops_isN (de_var 0) (de_non) (nomark _)))) (dss_nil)) (dss_cons (ds_if (dt_val (de_isi TN.bool (de_var 1) T.n_isinstance T.n_bool)) (dss_one (ds_ret (de_and (de_isi TN.bool (de_var 0) T.n_isinstance T.n_bool) (de_one (de_cmp (op_eqU hr.units) ops_eq (de_var 0) (de_var 1) (nomark _)))))) (dss_nil)) (dss_cons (ds_if (dt_val (de_isi TN.int (de_var 1) T.n_isinstance T.n_int)) (dss_one (ds_ret (de_and (de_isi TN.int (de_var 0) T.n_isinstance T.n_int) (de_and (de_not (de_isi TN.bool (de_var 0) T.n_isinstance T.n_bool)) (de_one (de_cmp (op_eqU hr.units) ops_eq (de_var 0) (de_var 1) (nomark _))))))) (dss_nil)) (dss_cons (ds_if (dt_val (de_isi TN.str (de_var 1) T.n_isinstance T.n_str)) (dss_one (ds_ret (de_and (de_isi TN.str (de_var 0) T.n_isinstance T.n_str) (de_one (de_cmp (op_eqU hr.units) ops_eq (de_var 0) (de_var 1) (nomark _)))))) (dss_nil)) (dss_cons (ds_if ((dw_or ((dw_and (dt_val (de_isi TN.list (de_var 1) T.n_isinstance T.n_list)) (dw_and1 (dt_not (dt_val (de_isi TN.list (de_var 0) T.n_isinstance T.n_list))))).t) (dw_or1 ((dw_and (dt_val (de_isi TN.tuple (de_var 1) T.n_isinstance T.n_tuple)) (dw_and1 (dt_not (dt_val (de_isi TN.tuple (de_var 0) T.n_isinstance T.n_tuple))))).t))).t) (dss_one (ds_ret (de_bl))) (dss_nil)) (dss_one (ds_ret (de_and (de_cmp (op_eqU hr.units) ops_eq (de_callB call_len cs_len T.n_len PySem.boot_len (da_cons (de_var 0) (da_nil))) (de_callB call_len cs_len T.n_len PySem.boot_len (da_cons (de_var 1) (da_nil))) (nomark _)) (de_one (de_cmp (op_eqU hr.units) ops_eq (de_lc (own := [("k", 2)]) rfl ND (di_range1 (de_callB call_len cs_len T.n_len PySem.boot_len (da_cons (de_var 1) (da_nil))) T.n_range) (blkOk_by (N := N__law_same) (sc := defScope s__law_same) (by decide +kernel)) (by decide) (fun b => dg_name 2 ND) (fun b => dts_one (dt_not (dt_val (de_call G_rec (hr.mono (by omega)) T.m__law_same T.F__law_same.kp T.b__law_same (da_cons (de_ix (de_var 0) (de_var 2)) (da_cons (de_ix (de_var 1) (de_var 2)) (da_nil))))))) (fun b => de_int)) (de_lst (da_nil)) (nomark _))))))))))) (fun _ _ _ _ h => h)
theorem sc_bits_of : FnScope N_bits_of ["word", "width"] (defScope s_bits_of) := ⟨rfl, rfl, rfl, by decide +kernel, rfl, by decide +kernel, by decide +kernel⟩
theorem ok_bits_of (T : Txt K mg a) : FnOk P w K mg base CX0 1 a.f_bits_of a.fd_bits_of ["word", "width"] (spF K 2 m_bits_of) := by
  have ND := sc_bits_of.nd
  exact fn_ok (k := 0) T.F_bits_of sc_bits_of (fun cdv A outer s H E hr => dss_one (ds_ret (de_callTy call_tuple_of cs_tuple T.n_tuple PyProof.Rows.boot_tuple (da_cons (de_lc (own := [("k", 2)]) rfl ND (di_range1 (de_var 1) T.n_range) (blkOk_by (N := N_bits_of) (sc := defScope s_bits_of) (by decide +kernel)) (by decide) (fun b => dg_name 2 ND) (fun b => dts_nil) (fun b => de_bin op_and ops_and (de_bin op_shr ops_shr (de_var 0) (de_var 2)) (de_int))) (da_nil))))) (fun _ _ _ _ h => h)
theorem sc_word_of : FnScope N_word_of ["bits"] (defScope s_word_of) := ⟨rfl, rfl, rfl, by decide +kernel, rfl, by decide +kernel, by decide +kernel⟩
theorem ok_word_of (T : Txt K mg a) : FnOk P w K mg base CX0 1 a.f_word_of a.fd_word_of ["bits"] (spF K 1 m_word_of) := by
  have ND := sc_word_of.nd
  exact fn_ok (k := 0) T.F_word_of sc_word_of (fun cdv A outer s H E hr => dss_cons (ds_set 1 ND (de_int)) (dss_cons (ds_for PassesOwn.never rfl (di_range1 (de_callB call_len cs_len T.n_len PySem.boot_len (da_cons (de_var 0) (da_nil))) T.n_range) (dg_name 2 ND) (dss_one (ds_aug 1 ND iop_addI ops_addI (de_bin op_shl ops_shl (de_ix (de_var 0) (de_var 2)) (de_var 2))))) (dss_one (ds_ret (de_var 1))))) (fun _ _ _ _ h => h)
theorem sc_cut_word : FnScope N_cut_word ["value", "width"] (defScope s_cut_word) := ⟨rfl, rfl, rfl, by decide +kernel, rfl, by decide +kernel, by decide +kernel⟩
theorem ok_cut_word (T : Txt K mg a) : FnOk P w K mg base CX0 1 a.f_cut_word a.fd_cut_word ["value", "width"] (spF K 2 m_cut_word) := by
  have ND := sc_cut_word.nd
  exact fn_ok (k := 0) T.F_cut_word sc_cut_word (fun cdv A outer s H E hr => dss_one (ds_ret (de_bin op_and ops_and (de_var 0) (de_bin op_sub ops_sub (de_bin op_shl ops_shl (de_int) (de_var 1)) (de_int))))) (fun _ _ _ _ h => h)
theorem sc_one_count : FnScope N_one_count ["word"] (defScope s_one_count) := ⟨rfl, rfl, rfl, by decide +kernel, rfl, by decide +kernel, by decide +kernel⟩
theorem ok_one_count (T : Txt K mg a) : FnOk P w K mg base CX0 1 a.f_one_count a.fd_one_count ["word"] (spF K 1 m_one_count) := by
  have ND := sc_one_count.nd
  exact fn_ok (k := 0) T.F_one_count sc_one_count (fun cdv A outer s H E hr => dss_cons (ds_set 1 ND (de_int)) (dss_cons (ds_while 64 PassesOwn.never (dt_cmp op_gt ops_gt (de_var 0) (de_int) (nomark _)) (dss_one (ds_par 1 0 rfl ND (da_cons (de_bin op_add4 ops_add (de_var 1) (de_bin op_and ops_and (de_var 0) (de_int))) (da_cons (de_bin op_shr ops_shr (de_var 0) (de_int)) (da_nil)))))) (dss_one (ds_ret (de_var 1))))) (fun _ _ _ _ h => h)
theorem sc_number_width : FnScope N_number_width ["number"] (defScope s_number_width) := ⟨rfl, rfl, rfl, by decide +kernel, rfl, by decide +kernel, by decide +kernel⟩
theorem ok_number_width (T : Txt K mg a) : FnOk P w K mg base CX0 1 a.f_number_width a.fd_number_width ["number"] (spF K 1 m_number_width) := by
  have ND := sc_number_width.nd
  exact fn_ok (k := 0) T.F_number_width sc_number_width (fun cdv A outer s H E hr => dss_cons (ds_set 1 ND (de_int)) (dss_cons (ds_while 64 PassesOwn.never (dt_cmp op_gt ops_gt (de_bin op_shr ops_shr (de_var 0) (de_var 1)) (de_int) (nomark _)) (dss_one (ds_aug 1 ND iop_addI ops_addI (de_int)))) (dss_one (ds_ret (de_var 1))))) (fun _ _ _ _ h => h)
theorem sc_is_count : FnScope N_is_count ["value"] (defScope s_is_count) := ⟨rfl, rfl, rfl, by decide +kernel, rfl, by decide +kernel, by decide +kernel⟩
theorem ok_is_count (T : Txt K mg a) : FnOk P w K mg base CX0 1 a.f_is_count a.fd_is_count ["value"] (spF K 1 m_is_count) := by
  have ND := sc_is_count.nd
  exact fn_ok (k := 0) T.F_is_count sc_is_count (fun cdv A outer s H E hr => dss_one (ds_ret (de_and (de_isi TN.int (de_var 0) T.n_isinstance T.n_int) (de_and (de_not (de_isi TN.bool (de_var 0) T.n_isinstance T.n_bool)) (de_one (de_cmp op_ge ops_ge (de_var 0) (de_int) (nomark _))))))) (fun _ _ _ _ h => h)
theorem sc_is_word : FnScope N_is_word ["value", "width"] (defScope s_is_word) := ⟨rfl, rfl, rfl, by decide +kernel, rfl, by decide +kernel, by decide +kernel⟩
theorem ok_is_word (T : Txt K mg a) : FnOk P w K mg base CX0 2 a.f_is_word a.fd_is_word ["value", "width"] (spF K 2 m_is_word) := by
  have G_is_count := ok_is_count (P := P) (w := w) (base := base) T
  have ND := sc_is_word.nd
  exact fn_ok (k := 1) T.F_is_word sc_is_word (fun cdv A outer s H E hr => dss_one (ds_ret (de_and (de_call G_is_count (hr.mono (by decide)) T.m_is_count T.F_is_count.kp T.b_is_count (da_cons (de_var 0) (da_nil))) (de_one (de_cmp op_lt ops_lt (de_var 0) (de_bin op_shl ops_shl (de_int) (de_var 1)) (nomark _)))))) (fun _ _ _ _ h => h)
theorem sc_are_words : FnScope N_are_words ["value", "width"] (defScope s_are_words) := ⟨rfl, rfl, rfl, by decide +kernel, rfl, by decide +kernel, by decide +kernel⟩
theorem ok_are_words (T : Txt K mg a) : FnOk P w K mg base CX0 3 a.f_are_words a.fd_are_words ["value", "width"] (spF K 2 m_are_words) := by
  have G_is_word := ok_is_word (P := P) (w := w) (base := base) T
  have ND := sc_are_words.nd
  exact fn_ok (k := 2) T.F_are_words sc_are_words (fun cdv A outer s H E hr => dss_one (ds_ret (de_and (de_isi TN.tuple (de_var 0) T.n_isinstance T.n_tuple) (de_one (de_callB (cr_all rfl) cs_all T.n_all (by decide +kernel) (da_cons (de_lc (own := [("one", 2)]) rfl ND (di_any (de_var 0)) (blkOk_by (N := N_are_words) (sc := defScope s_are_words) (by decide +kernel)) (by decide) (fun b => dg_name 2 ND) (fun b => dts_nil) (fun b => de_call G_is_word (hr.mono (by decide)) T.m_is_word T.F_is_word.kp T.b_is_word (da_cons (de_var 2) (da_cons (de_var 1) (da_nil))))) (da_nil))))))) (fun _ _ _ _ h => h)
theorem sc_is_bits : FnScope N_is_bits ["value", "size"] (defScope s_is_bits) := ⟨rfl, rfl, rfl, by decide +kernel, rfl, by decide +kernel, by decide +kernel⟩
theorem ok_is_bits (T : Txt K mg a) : FnOk P w K mg base CX0 3 a.f_is_bits a.fd_is_bits ["value", "size"] (spF K 2 m_is_bits) := by
  have G_is_word := ok_is_word (P := P) (w := w) (base := base) T
  have ND := sc_is_bits.nd
  exact fn_ok (k := 2) T.F_is_bits sc_is_bits (fun cdv A outer s H E hr => dss_one (ds_ret (de_and (de_isi TN.tuple (de_var 0) T.n_isinstance T.n_tuple) (de_and (de_cmp (op_eqU hr.units) ops_eq (de_callB call_len cs_len T.n_len PySem.boot_len (da_cons (de_var 0) (da_nil))) (de_var 1) (nomark _)) (de_one (de_callB (cr_all rfl) cs_all T.n_all (by decide +kernel) (da_cons (de_lc (own := [("one", 2)]) rfl ND (di_any (de_var 0)) (blkOk_by (N := N_is_bits) (sc := defScope s_is_bits) (by decide +kernel)) (by decide) (fun b => dg_name 2 ND) (fun b => dts_nil) (fun b => de_call G_is_word (hr.mono (by decide)) T.m_is_word T.F_is_word.kp T.b_is_word (da_cons (de_var 2) (da_cons (de_int) (da_nil))))) (da_nil)))))))) (fun _ _ _ _ h => h)
theorem sc_is_width : FnScope N_is_width ["value"] (defScope s_is_width) := ⟨rfl, rfl, rfl, by decide +kernel, rfl, by decide +kernel, by decide +kernel⟩
theorem ok_is_width (T : Txt K mg a) : FnOk P w K mg base CX0 2 a.f_is_width a.fd_is_width ["value"] (spF K 1 m_is_width) := by
  have G_is_count := ok_is_count (P := P) (w := w) (base := base) T
  have ND := sc_is_width.nd
  exact fn_ok (k := 1) T.F_is_width sc_is_width (fun cdv A outer s H E hr => dss_one (ds_ret (de_and (de_call G_is_count (hr.mono (by decide)) T.m_is_count T.F_is_count.kp T.b_is_count (da_cons (de_var 0) (da_nil))) (de_one (de_chain op_le ops_le op_le ops_le (de_int) (de_var 0) (de_glob (v := .int 8) (d := .int 8) T.c_WIDEST ⟨_, rfl⟩ (fun _ _ => rfl))))))) (fun _ _ _ _ h => h)
theorem sc_law : FnScope N_law ["script"] (defScope s_law) := ⟨rfl, rfl, rfl, by decide +kernel, rfl, by decide +kernel, by decide +kernel⟩
theorem ok_law (T : Txt K mg a) : FnOk P w K mg base CX0 9 a.f_law a.fd_law ["script"] (spF K 1 m_law) := by
  have G__law_next := ok__law_next (P := P) (w := w) (base := base) T
  have G_number_width := ok_number_width (P := P) (w := w) (base := base) T
  have G_one_count := ok_one_count (P := P) (w := w) (base := base) T
  have G_cut_word := ok_cut_word (P := P) (w := w) (base := base) T
  have G_word_of := ok_word_of (P := P) (w := w) (base := base) T
  have G_bits_of := ok_bits_of (P := P) (w := w) (base := base) T
  have G__law_same := ok__law_same (P := P) (w := w) (base := base) 8 T
  have G_is_width := ok_is_width (P := P) (w := w) (base := base) T
  have G_is_count := ok_is_count (P := P) (w := w) (base := base) T
  have G_is_word := ok_is_word (P := P) (w := w) (base := base) T
  have G_is_bits := ok_is_bits (P := P) (w := w) (base := base) T
  have G_are_words := ok_are_words (P := P) (w := w) (base := base) T
  have ND := sc_law.nd
  exact fn_ok (k := 8) T.F_law sc_law (fun cdv A outer s H E hr => dss_cons (ds_set 1 ND (de_own (da_cons (de_callTy call_list_of cs_list T.n_list PyProof.Rows.boot_list (da_cons (de_var 0) (da_nil))) (da_cons (de_int) (da_cons (de_int) (da_cons (de_int) (da_nil))))))) (dss_cons (ds_set 2 ND (de_bin op_add4 ops_add (de_int) (de_call G__law_next (hr.mono (by decide)) T.m__law_next T.F__law_next.kp T.b__law_next (da_cons (de_var 1) (da_cons (de_int) (da_nil)))))) (dss_cons (ds_asg (dg_tup rfl (dgs_cons (dg_name 3 ND) (dgs_cons (dg_name 4 ND) (dgs_nil)))) (de_tup (da_cons (de_call G__law_next (hr.mono (by decide)) T.m__law_next T.F__law_next.kp T.b__law_next (da_cons (de_var 1) (da_cons (de_bin op_shl ops_shl (de_int) (de_var 2)) (da_nil)))) (da_cons (de_bin op_sub ops_sub (de_call G__law_next (hr.mono (by decide)) T.m__law_next T.F__law_next.kp T.b__law_next (da_cons (de_var 1) (da_cons (de_bin op_shl ops_shl (de_int) (de_int)) (da_nil)))) (de_bin op_shl ops_shl (de_int) (de_int))) (da_nil))))) (dss_cons (ds_set 5 ND (de_callTy call_tuple_of cs_tuple T.n_tuple PyProof.Rows.boot_tuple (da_cons (de_lc (own := [("k", 12)]) rfl ND (di_range1 (de_var 2) T.n_range) (blkOk_by (N := N_law) (sc := defScope s_law) (by decide +kernel)) (by decide) (fun b => dg_name 12 ND) (fun b => dts_nil) (fun b => de_bin op_and ops_and (de_bin op_fdiv ops_fdiv (de_var 3) (de_bin op_shl ops_shl (de_int) (de_var 12))) (de_int))) (da_nil)))) (dss_cons (ds_set 6 ND (de_call G__law_next (hr.mono (by decide)) T.m__law_next T.F__law_next.kp T.b__law_next (da_cons (de_var 1) (da_cons (de_bin op_shl ops_shl (de_int) (de_int)) (da_nil))))) (dss_cons (ds_set 7 ND (de_callB call_len cs_len T.n_len PySem.boot_len (da_cons (de_lc (own := [("k", 12)]) rfl ND (di_range2 (de_int) (de_int) T.n_range) (blkOk_by (N := N_law) (sc := defScope s_law) (by decide +kernel)) (by decide) (fun b => dg_name 12 ND) (fun b => dts_one (dt_cmp op_ge ops_ge (de_var 6) (de_bin op_shl ops_shl (de_int) (de_var 12)) (nomark _))) (fun b => de_var 12)) (da_nil)))) (dss_cons (ds_set 8 ND (de_lst (da_cons (de_call G_bits_of (hr.mono (by decide)) T.m_bits_of T.F_bits_of.kp T.b_bits_of (da_cons (de_var 3) (da_cons (de_var 2) (da_nil)))) (da_cons (de_call G_word_of (hr.mono (by decide)) T.m_word_of T.F_word_of.kp T.b_word_of (da_cons (de_var 5) (da_nil))) (da_cons (de_call G_cut_word (hr.mono (by decide)) T.m_cut_word T.F_cut_word.kp T.b_cut_word (da_cons (de_var 4) (da_cons (de_var 2) (da_nil)))) (da_cons (de_call G_one_count (hr.mono (by decide)) T.m_one_count T.F_one_count.kp T.b_one_count (da_cons (de_var 6) (da_nil))) (da_cons (de_call G_number_width (hr.mono (by decide)) T.m_number_width T.F_number_width.kp T.b_number_width (da_cons (de_var 6) (da_nil))) (da_cons (de_glob (v := .int 8) (d := .int 8) T.c_WIDEST ⟨_, rfl⟩ (fun _ _ => rfl)) (da_nil))))))))) (dss_cons (ds_if (dt_not (dt_val (de_call G__law_same (hr.mono (by decide)) T.m__law_same T.F__law_same.kp T.b__law_same (da_cons (de_var 8) (da_cons (de_lst (da_cons (de_var 5) (da_cons (de_var 3) (da_cons (de_bin op_mod ops_mod (de_callTy call_int1 cs_int T.n_int PyProof.Rows.boot_int (da_cons (de_var 4) (da_nil))) (de_bin op_shl ops_shl (de_int) (de_var 2))) (da_cons (de_callB (cr_sum rfl) cs_sum T.n_sum (by decide +kernel) (da_cons (de_lc (own := [("k", 12)]) rfl ND (di_range1 (de_int) T.n_range) (blkOk_by (N := N_law) (sc := defScope s_law) (by decide +kernel)) (by decide) (fun b => dg_name 12 ND) (fun b => dts_nil) (fun b => de_bin op_and ops_and (de_bin op_shr ops_shr (de_var 6) (de_var 12)) (de_int))) (da_nil))) (da_cons (de_bin op_add4 ops_add (de_int) (de_var 7)) (da_cons (de_int) (da_nil)))))))) (da_nil)))))) (dss_one (ds_ret (de_bl))) (dss_nil)) (dss_cons (ds_set 9 ND (de_lst (da_cons (de_int) (da_cons (de_int) (da_cons (de_int) (da_cons (de_int) (da_cons (de_neg (de_int)) (da_cons (de_bl) (da_cons (de_non) (da_cons (de_str) (da_cons (de_tup (da_cons (de_int) (da_nil))) (da_nil)))))))))))) (dss_cons (ds_if (dt_not (dt_val (de_call G__law_same (hr.mono (by decide)) T.m__law_same T.F__law_same.kp T.b__law_same (da_cons (de_lst (da_cons (de_lc (own := [("one", 13)]) rfl ND (di_any (de_var 9)) (blkOk_by (N := N_law) (sc := defScope s_law) (by decide +kernel)) (by decide) (fun b => dg_name 13 ND) (fun b => dts_nil) (fun b => de_call G_is_count (hr.mono (by decide)) T.m_is_count T.F_is_count.kp T.b_is_count (da_cons (de_var 13) (da_nil)))) (da_cons (de_lc (own := [("one", 13)]) rfl ND (di_any (de_var 9)) (blkOk_by (N := N_law) (sc := defScope s_law) (by decide +kernel)) (by decide) (fun b => dg_name 13 ND) (fun b => dts_nil) (fun b => de_call G_is_width (hr.mono (by decide)) T.m_is_width T.F_is_width.kp T.b_is_width (da_cons (de_var 13) (da_nil)))) (da_nil)))) (da_cons (de_lst (da_cons (de_bin op_add4 ops_add (de_bin op_mul2 ops_mul (de_lst (da_cons (de_bl) (da_nil))) (de_int)) (de_bin op_mul2 ops_mul (de_lst (da_cons (de_bl) (da_nil))) (de_int))) (da_cons (de_bin op_add4 ops_add (de_lst (da_cons (de_bl) (da_cons (de_bl) (da_cons (de_bl) (da_nil))))) (de_bin op_mul2 ops_mul (de_lst (da_cons (de_bl) (da_nil))) (de_int))) (da_nil)))) (da_nil)))))) (dss_one (ds_ret (de_bl))) (dss_nil)) (dss_cons (ds_setLc (own := [("one", 13)]) 8 rfl ND (di_any (de_tup (da_cons (de_var 3) (da_cons (de_bin op_sub ops_sub (de_bin op_shl ops_shl (de_int) (de_var 2)) (de_int)) (da_cons (de_bin op_shl ops_shl (de_int) (de_var 2)) (da_cons (de_neg (de_int)) (da_cons (de_bl) (da_cons (de_non) (da_cons (de_str) (da_nil)))))))))) (blkOk_by (N := N_law) (sc := defScope s_law) (by decide +kernel)) (by decide) (fun b => dg_name 13 ND) (fun b => dts_nil) (fun b => de_call G_is_word (hr.mono (by decide)) T.m_is_word T.F_is_word.kp T.b_is_word (da_cons (de_var 13) (da_cons (de_var 2) (da_nil)))) (sw_true rfl rfl rfl (by decide +kernel))) (dss_cons (ds_if (dt_not (dt_val (de_call G__law_same (hr.mono (by decide)) T.m__law_same T.F__law_same.kp T.b__law_same (da_cons (de_var 8) (da_cons (de_bin op_add4 ops_add (de_lst (da_cons (de_bl) (da_cons (de_bl) (da_nil)))) (de_bin op_mul2 ops_mul (de_lst (da_cons (de_bl) (da_nil))) (de_int))) (da_nil)))))) (dss_one (ds_ret (de_bl))) (dss_nil)) (dss_cons (ds_set 10 ND (de_lst (da_cons (de_var 5) (da_cons (de_callTy call_list_of cs_list T.n_list PyProof.Rows.boot_list (da_cons (de_var 5) (da_nil))) (da_cons (de_bin op_add4 ops_add (de_var 5) (de_tup (da_cons (de_int) (da_nil)))) (da_cons (de_slice (de_var 5) (do_some (de_int)) (do_none)) (da_cons (de_non) (da_cons (de_bin op_add4 ops_add (de_slice (de_var 5) (do_none) (do_some (de_neg (de_int)))) (de_tup (da_cons (de_int) (da_nil)))) (da_cons (de_bin op_add4 ops_add (de_slice (de_var 5) (do_none) (do_some (de_neg (de_int)))) (de_tup (da_cons (de_bl) (da_nil)))) (da_cons (de_bin op_add4 ops_add (de_slice (de_var 5) (do_none) (do_some (de_neg (de_int)))) (de_tup (da_cons (de_neg (de_int)) (da_nil)))) (da_nil))))))))))) (dss_cons (ds_if (dt_not (dt_val (de_call G__law_same (hr.mono (by decide)) T.m__law_same T.F__law_same.kp T.b__law_same (da_cons (de_lc (own := [("one", 13)]) rfl ND (di_any (de_var 10)) (blkOk_by (N := N_law) (sc := defScope s_law) (by decide +kernel)) (by decide) (fun b => dg_name 13 ND) (fun b => dts_nil) (fun b => de_call G_is_bits (hr.mono (by decide)) T.m_is_bits T.F_is_bits.kp T.b_is_bits (da_cons (de_var 13) (da_cons (de_var 2) (da_nil))))) (da_cons (de_bin op_add4 ops_add (de_lst (da_cons (de_bl) (da_nil))) (de_bin op_mul2 ops_mul (de_lst (da_cons (de_bl) (da_nil))) (de_int))) (da_nil)))))) (dss_one (ds_ret (de_bl))) (dss_nil)) (dss_cons (ds_set 11 ND (de_callTy call_tuple_of cs_tuple T.n_tuple PyProof.Rows.boot_tuple (da_cons (de_lc (own := [("k", 12)]) rfl ND (di_range1 (de_call G__law_next (hr.mono (by decide)) T.m__law_next T.F__law_next.kp T.b__law_next (da_cons (de_var 1) (da_cons (de_int) (da_nil)))) T.n_range) (blkOk_by (N := N_law) (sc := defScope s_law) (by decide +kernel)) (by decide) (fun b => dg_name 12 ND) (fun b => dts_nil) (fun b => de_call G__law_next (hr.mono (by decide)) T.m__law_next T.F__law_next.kp T.b__law_next (da_cons (de_var 1) (da_cons (de_bin op_shl ops_shl (de_int) (de_var 2)) (da_nil))))) (da_nil)))) (dss_cons (ds_set 10 ND (de_lst (da_cons (de_var 11) (da_cons (de_callTy call_list_of cs_list T.n_list PyProof.Rows.boot_list (da_cons (de_var 11) (da_nil))) (da_cons (de_bin op_add4 ops_add (de_var 11) (de_tup (da_cons (de_bin op_shl ops_shl (de_int) (de_var 2)) (da_nil)))) (da_cons (de_bin op_add4 ops_add (de_var 11) (de_tup (da_cons (de_bl) (da_nil)))) (da_cons (de_bin op_add4 ops_add (de_var 11) (de_tup (da_cons (de_neg (de_int)) (da_nil)))) (da_cons (de_non) (da_cons (de_tup (da_nil)) (da_nil)))))))))) (dss_one (ds_ret (de_call G__law_same (hr.mono (by decide)) T.m__law_same T.F__law_same.kp T.b__law_same (da_cons (de_lc (own := [("one", 13)]) rfl ND (di_any (de_var 10)) (blkOk_by (N := N_law) (sc := defScope s_law) (by decide +kernel)) (by decide) (fun b => dg_name 13 ND) (fun b => dts_nil) (fun b => de_call G_are_words (hr.mono (by decide)) T.m_are_words T.F_are_words.kp T.b_are_words (da_cons (de_var 13) (da_cons (de_var 2) (da_nil))))) (da_cons (de_bin op_add4 ops_add (de_bin op_add4 ops_add (de_lst (da_cons (de_bl) (da_nil))) (de_bin op_mul2 ops_mul (de_lst (da_cons (de_bl) (da_nil))) (de_int))) (de_lst (da_cons (de_bl) (da_nil)))) (da_nil)))))))))))))))))))))) (fun _ _ _ _ h => h)
end
end LW
set_option Elab.async false
set_option maxRecDepth 100000
set_option maxHeartbeats 4000000
set_option linter.all false
set_option autoImplicit false
namespace LW
open PySem L2 VL
theorem reps_ints {K : PySem.W.Frag} {ws : Ws} {H : Hp} : ∀ ns : List Int, Reps K ws H (ns.map D.int) (ns.map V.int)
  | [] => rfl
  | n :: ns => ⟨.int n, ns.map V.int, rfl, rfl, reps_ints ns⟩
/-- the law's: a list of at most 63 ints is handed in, True comes out -/
def spLaw (K : PySem.W.Frag) : Sp := fun vs H Q _ => ∃ (a : Addr) (ns : List Int), vs = [.ref a] ∧ SqL K H a (ns.map V.int) ∧ ns.length ≤ 63 ∧ ∀ H', Q (.bl true) H'
theorem law_ok {P : Program} {w : World} {K : PySem.W.Frag} {mg : Str → Option Value} {base : Heap} {k : Nat} {f : Addr} {fd : FuncData} (G : FnOk P w K mg base CX0 k f fd ["script"] (spF K 1 m_law)) : FnOk P w K mg base CX0 k f fd ["script"] (spLaw K) :=
  G.imp fun vs H Q E h => by
    obtain ⟨a, ns, rfl, hS, hl, q⟩ := h
    refine ⟨rfl, ⟨[], []⟩, [], [.lck (ns.map D.int)], .bl true, [], ⟨List.nodup_nil, rfl, fun _ z => (nomatch z), fun _ z => (nomatch z), fun l a ds z => by simp at z⟩, ⟨.ref a, [], rfl, ⟨a, ns.map V.int, rfl, ?_, reps_ints ns⟩, rfl⟩, law_val ns, fun v ws' H' _ _ r => by cases r; exact q H'⟩
    exact sqL_mono (fun b o e => by rw [mask_of (ws := ⟨[], []⟩) ⟨by simp, by simp⟩]; exact e) hS
theorem all_mk {l : PySem.W.OpenLaw} {w : World} {K : PySem.W.Frag} {h : Heap} {mg : Str → Option Value} {fa : Addr} {f__law_next f__law_same f_bits_of f_word_of f_cut_word f_one_count f_number_width f_is_count f_is_word f_are_words f_is_bits f_is_width f_law : Addr}
    {od__law_next an__law_next od__law_same an__law_same od_bits_of an_bits_of od_word_of an_word_of od_cut_word an_cut_word od_one_count an_one_count od_number_width an_number_width od_is_count an_is_count od_is_word an_is_word od_are_words an_are_words od_is_bits an_is_bits od_is_width an_is_width od_law an_law : Option Addr} {sl__law_next sl__law_same sl_bits_of sl_word_of sl_cut_word sl_one_count sl_number_width sl_is_count sl_is_word sl_are_words sl_is_bits sl_is_width sl_law : Array (Option Value)} {oc__law_next kV__law_next dc__law_next pm__law_next cd__law_next ct__law_next oc__law_same kV__law_same dc__law_same pm__law_same cd__law_same ct__law_same oc_bits_of kV_bits_of dc_bits_of pm_bits_of cd_bits_of ct_bits_of oc_word_of kV_word_of dc_word_of pm_word_of cd_word_of ct_word_of oc_cut_word kV_cut_word dc_cut_word pm_cut_word cd_cut_word ct_cut_word oc_one_count kV_one_count dc_one_count pm_one_count cd_one_count ct_one_count oc_number_width kV_number_width dc_number_width pm_number_width cd_number_width ct_number_width oc_is_count kV_is_count dc_is_count pm_is_count cd_is_count ct_is_count oc_is_word kV_is_word dc_is_word pm_is_word cd_is_word ct_is_word oc_are_words kV_are_words dc_are_words pm_are_words cd_are_words ct_are_words oc_is_bits kV_is_bits dc_is_bits pm_is_bits cd_is_bits ct_is_bits oc_is_width kV_is_width dc_is_width pm_is_width cd_is_width ct_is_width oc_law kV_law dc_law pm_law cd_law ct_law : Value} {t_WIDEST : Tok} (X : K.In h) (G : h.Ns mainGlobals mg) (hfa : mg "law" = some (.ref fa))
    (a__law_next : PySem.W.nsIn K mainGlobals "_law_next" = some (some (.ref f__law_next)))
    (l__law_next : K.lookup f__law_next = some ⟨oc__law_next, od__law_next, .func (PySem.W.fnOf "_law_next" "_law_next" (defArgs s__law_next) (defBody s__law_next) (defScope s__law_next) .none kV__law_next dc__law_next pm__law_next an__law_next cd__law_next ct__law_next), sl__law_next⟩)
    (c__law_next : PySem.W.codeIn K cd__law_next "_law_next" = true)
    (k__law_next : PySem.W.keepIn K (.ref f__law_next) = true)
    (a__law_same : PySem.W.nsIn K mainGlobals "_law_same" = some (some (.ref f__law_same)))
    (l__law_same : K.lookup f__law_same = some ⟨oc__law_same, od__law_same, .func (PySem.W.fnOf "_law_same" "_law_same" (defArgs s__law_same) (defBody s__law_same) (defScope s__law_same) .none kV__law_same dc__law_same pm__law_same an__law_same cd__law_same ct__law_same), sl__law_same⟩)
    (c__law_same : PySem.W.codeIn K cd__law_same "_law_same" = true)
    (k__law_same : PySem.W.keepIn K (.ref f__law_same) = true)
    (a_bits_of : PySem.W.nsIn K mainGlobals "bits_of" = some (some (.ref f_bits_of)))
    (l_bits_of : K.lookup f_bits_of = some ⟨oc_bits_of, od_bits_of, .func (PySem.W.fnOf "bits_of" "bits_of" (defArgs s_bits_of) (defBody s_bits_of) (defScope s_bits_of) .none kV_bits_of dc_bits_of pm_bits_of an_bits_of cd_bits_of ct_bits_of), sl_bits_of⟩)
    (c_bits_of : PySem.W.codeIn K cd_bits_of "bits_of" = true)
    (k_bits_of : PySem.W.keepIn K (.ref f_bits_of) = true)
    (a_word_of : PySem.W.nsIn K mainGlobals "word_of" = some (some (.ref f_word_of)))
    (l_word_of : K.lookup f_word_of = some ⟨oc_word_of, od_word_of, .func (PySem.W.fnOf "word_of" "word_of" (defArgs s_word_of) (defBody s_word_of) (defScope s_word_of) .none kV_word_of dc_word_of pm_word_of an_word_of cd_word_of ct_word_of), sl_word_of⟩)
    (c_word_of : PySem.W.codeIn K cd_word_of "word_of" = true)
    (k_word_of : PySem.W.keepIn K (.ref f_word_of) = true)
    (a_cut_word : PySem.W.nsIn K mainGlobals "cut_word" = some (some (.ref f_cut_word)))
    (l_cut_word : K.lookup f_cut_word = some ⟨oc_cut_word, od_cut_word, .func (PySem.W.fnOf "cut_word" "cut_word" (defArgs s_cut_word) (defBody s_cut_word) (defScope s_cut_word) .none kV_cut_word dc_cut_word pm_cut_word an_cut_word cd_cut_word ct_cut_word), sl_cut_word⟩)
    (c_cut_word : PySem.W.codeIn K cd_cut_word "cut_word" = true)
    (k_cut_word : PySem.W.keepIn K (.ref f_cut_word) = true)
    (a_one_count : PySem.W.nsIn K mainGlobals "one_count" = some (some (.ref f_one_count)))
    (l_one_count : K.lookup f_one_count = some ⟨oc_one_count, od_one_count, .func (PySem.W.fnOf "one_count" "one_count" (defArgs s_one_count) (defBody s_one_count) (defScope s_one_count) .none kV_one_count dc_one_count pm_one_count an_one_count cd_one_count ct_one_count), sl_one_count⟩)
    (c_one_count : PySem.W.codeIn K cd_one_count "one_count" = true)
    (k_one_count : PySem.W.keepIn K (.ref f_one_count) = true)
    (a_number_width : PySem.W.nsIn K mainGlobals "number_width" = some (some (.ref f_number_width)))
    (l_number_width : K.lookup f_number_width = some ⟨oc_number_width, od_number_width, .func (PySem.W.fnOf "number_width" "number_width" (defArgs s_number_width) (defBody s_number_width) (defScope s_number_width) .none kV_number_width dc_number_width pm_number_width an_number_width cd_number_width ct_number_width), sl_number_width⟩)
    (c_number_width : PySem.W.codeIn K cd_number_width "number_width" = true)
    (k_number_width : PySem.W.keepIn K (.ref f_number_width) = true)
    (a_is_count : PySem.W.nsIn K mainGlobals "is_count" = some (some (.ref f_is_count)))
    (l_is_count : K.lookup f_is_count = some ⟨oc_is_count, od_is_count, .func (PySem.W.fnOf "is_count" "is_count" (defArgs s_is_count) (defBody s_is_count) (defScope s_is_count) .none kV_is_count dc_is_count pm_is_count an_is_count cd_is_count ct_is_count), sl_is_count⟩)
    (c_is_count : PySem.W.codeIn K cd_is_count "is_count" = true)
    (k_is_count : PySem.W.keepIn K (.ref f_is_count) = true)
    (a_is_word : PySem.W.nsIn K mainGlobals "is_word" = some (some (.ref f_is_word)))
    (l_is_word : K.lookup f_is_word = some ⟨oc_is_word, od_is_word, .func (PySem.W.fnOf "is_word" "is_word" (defArgs s_is_word) (defBody s_is_word) (defScope s_is_word) .none kV_is_word dc_is_word pm_is_word an_is_word cd_is_word ct_is_word), sl_is_word⟩)
    (c_is_word : PySem.W.codeIn K cd_is_word "is_word" = true)
    (k_is_word : PySem.W.keepIn K (.ref f_is_word) = true)
    (a_are_words : PySem.W.nsIn K mainGlobals "are_words" = some (some (.ref f_are_words)))
    (l_are_words : K.lookup f_are_words = some ⟨oc_are_words, od_are_words, .func (PySem.W.fnOf "are_words" "are_words" (defArgs s_are_words) (defBody s_are_words) (defScope s_are_words) .none kV_are_words dc_are_words pm_are_words an_are_words cd_are_words ct_are_words), sl_are_words⟩)
    (c_are_words : PySem.W.codeIn K cd_are_words "are_words" = true)
    (k_are_words : PySem.W.keepIn K (.ref f_are_words) = true)
    (a_is_bits : PySem.W.nsIn K mainGlobals "is_bits" = some (some (.ref f_is_bits)))
    (l_is_bits : K.lookup f_is_bits = some ⟨oc_is_bits, od_is_bits, .func (PySem.W.fnOf "is_bits" "is_bits" (defArgs s_is_bits) (defBody s_is_bits) (defScope s_is_bits) .none kV_is_bits dc_is_bits pm_is_bits an_is_bits cd_is_bits ct_is_bits), sl_is_bits⟩)
    (c_is_bits : PySem.W.codeIn K cd_is_bits "is_bits" = true)
    (k_is_bits : PySem.W.keepIn K (.ref f_is_bits) = true)
    (a_is_width : PySem.W.nsIn K mainGlobals "is_width" = some (some (.ref f_is_width)))
    (l_is_width : K.lookup f_is_width = some ⟨oc_is_width, od_is_width, .func (PySem.W.fnOf "is_width" "is_width" (defArgs s_is_width) (defBody s_is_width) (defScope s_is_width) .none kV_is_width dc_is_width pm_is_width an_is_width cd_is_width ct_is_width), sl_is_width⟩)
    (c_is_width : PySem.W.codeIn K cd_is_width "is_width" = true)
    (k_is_width : PySem.W.keepIn K (.ref f_is_width) = true)
    (a_law : PySem.W.nsIn K mainGlobals "law" = some (some (.ref f_law)))
    (l_law : K.lookup f_law = some ⟨oc_law, od_law, .func (PySem.W.fnOf "law" "law" (defArgs s_law) (defBody s_law) (defScope s_law) .none kV_law dc_law pm_law an_law cd_law ct_law), sl_law⟩)
    (c_law : PySem.W.codeIn K cd_law "law" = true)
    (k_law : PySem.W.keepIn K (.ref f_law) = true)
    (z_len : PySem.W.nsIn K mainGlobals "len" = some none)
    (z_abs : PySem.W.nsIn K mainGlobals "abs" = some none)
    (z_int : PySem.W.nsIn K mainGlobals "int" = some none)
    (z_isinstance : PySem.W.nsIn K mainGlobals "isinstance" = some none)
    (z_bool : PySem.W.nsIn K mainGlobals "bool" = some none)
    (z_str : PySem.W.nsIn K mainGlobals "str" = some none)
    (z_list : PySem.W.nsIn K mainGlobals "list" = some none)
    (z_tuple : PySem.W.nsIn K mainGlobals "tuple" = some none)
    (z_range : PySem.W.nsIn K mainGlobals "range" = some none)
    (z_all : PySem.W.nsIn K mainGlobals "all" = some none)
    (z_sum : PySem.W.nsIn K mainGlobals "sum" = some none)
    (u_WIDEST : PySem.W.nsIn K mainGlobals "WIDEST" = some (some (.int 8 t_WIDEST)))
    : ∃ fd : FuncData, (∀ (s : Shared) (v : Value), BindsTo s fd ⟨[v], []⟩ [("script", v)]) ∧ ∀ base : Heap, K.In base → base.Ns mainGlobals mg → FnOk l.prog w K mg base CX0 9 fa fd ["script"] (spLaw K) := by
  have e := hfa.symm.trans (PySem.W.mg_of X G a_law)
  cases e
  have F__law_next := fun_mk (st := s__law_next) l__law_next c__law_next k__law_next
  have F__law_same := fun_mk (st := s__law_same) l__law_same c__law_same k__law_same
  have F_bits_of := fun_mk (st := s_bits_of) l_bits_of c_bits_of k_bits_of
  have F_word_of := fun_mk (st := s_word_of) l_word_of c_word_of k_word_of
  have F_cut_word := fun_mk (st := s_cut_word) l_cut_word c_cut_word k_cut_word
  have F_one_count := fun_mk (st := s_one_count) l_one_count c_one_count k_one_count
  have F_number_width := fun_mk (st := s_number_width) l_number_width c_number_width k_number_width
  have F_is_count := fun_mk (st := s_is_count) l_is_count c_is_count k_is_count
  have F_is_word := fun_mk (st := s_is_word) l_is_word c_is_word k_is_word
  have F_are_words := fun_mk (st := s_are_words) l_are_words c_are_words k_are_words
  have F_is_bits := fun_mk (st := s_is_bits) l_is_bits c_is_bits k_is_bits
  have F_is_width := fun_mk (st := s_is_width) l_is_width c_is_width k_is_width
  have F_law := fun_mk (st := s_law) l_law c_law k_law
  have b__law_next := F__law_next.binds (ps := ["tape", "many"]) fun _ _ _ _ _ _ us hl => match us, hl with | [_, _], _ => rfl
  have b__law_same := F__law_same.binds (ps := ["told", "due"]) fun _ _ _ _ _ _ us hl => match us, hl with | [_, _], _ => rfl
  have b_bits_of := F_bits_of.binds (ps := ["word", "width"]) fun _ _ _ _ _ _ us hl => match us, hl with | [_, _], _ => rfl
  have b_word_of := F_word_of.binds (ps := ["bits"]) fun _ _ _ _ _ _ us hl => match us, hl with | [_], _ => rfl
  have b_cut_word := F_cut_word.binds (ps := ["value", "width"]) fun _ _ _ _ _ _ us hl => match us, hl with | [_, _], _ => rfl
  have b_one_count := F_one_count.binds (ps := ["word"]) fun _ _ _ _ _ _ us hl => match us, hl with | [_], _ => rfl
  have b_number_width := F_number_width.binds (ps := ["number"]) fun _ _ _ _ _ _ us hl => match us, hl with | [_], _ => rfl
  have b_is_count := F_is_count.binds (ps := ["value"]) fun _ _ _ _ _ _ us hl => match us, hl with | [_], _ => rfl
  have b_is_word := F_is_word.binds (ps := ["value", "width"]) fun _ _ _ _ _ _ us hl => match us, hl with | [_, _], _ => rfl
  have b_are_words := F_are_words.binds (ps := ["value", "width"]) fun _ _ _ _ _ _ us hl => match us, hl with | [_, _], _ => rfl
  have b_is_bits := F_is_bits.binds (ps := ["value", "size"]) fun _ _ _ _ _ _ us hl => match us, hl with | [_, _], _ => rfl
  have b_is_width := F_is_width.binds (ps := ["value"]) fun _ _ _ _ _ _ us hl => match us, hl with | [_], _ => rfl
  have b_law := F_law.binds (ps := ["script"]) fun _ _ _ _ _ _ us hl => match us, hl with | [_], _ => rfl
  have T : Txt K mg ⟨f__law_next, (PySem.W.fnOf "_law_next" "_law_next" (defArgs s__law_next) (defBody s__law_next) (defScope s__law_next) .none kV__law_next dc__law_next pm__law_next an__law_next cd__law_next ct__law_next), f__law_same, (PySem.W.fnOf "_law_same" "_law_same" (defArgs s__law_same) (defBody s__law_same) (defScope s__law_same) .none kV__law_same dc__law_same pm__law_same an__law_same cd__law_same ct__law_same), f_bits_of, (PySem.W.fnOf "bits_of" "bits_of" (defArgs s_bits_of) (defBody s_bits_of) (defScope s_bits_of) .none kV_bits_of dc_bits_of pm_bits_of an_bits_of cd_bits_of ct_bits_of), f_word_of, (PySem.W.fnOf "word_of" "word_of" (defArgs s_word_of) (defBody s_word_of) (defScope s_word_of) .none kV_word_of dc_word_of pm_word_of an_word_of cd_word_of ct_word_of), f_cut_word, (PySem.W.fnOf "cut_word" "cut_word" (defArgs s_cut_word) (defBody s_cut_word) (defScope s_cut_word) .none kV_cut_word dc_cut_word pm_cut_word an_cut_word cd_cut_word ct_cut_word), f_one_count, (PySem.W.fnOf "one_count" "one_count" (defArgs s_one_count) (defBody s_one_count) (defScope s_one_count) .none kV_one_count dc_one_count pm_one_count an_one_count cd_one_count ct_one_count), f_number_width, (PySem.W.fnOf "number_width" "number_width" (defArgs s_number_width) (defBody s_number_width) (defScope s_number_width) .none kV_number_width dc_number_width pm_number_width an_number_width cd_number_width ct_number_width), f_is_count, (PySem.W.fnOf "is_count" "is_count" (defArgs s_is_count) (defBody s_is_count) (defScope s_is_count) .none kV_is_count dc_is_count pm_is_count an_is_count cd_is_count ct_is_count), f_is_word, (PySem.W.fnOf "is_word" "is_word" (defArgs s_is_word) (defBody s_is_word) (defScope s_is_word) .none kV_is_word dc_is_word pm_is_word an_is_word cd_is_word ct_is_word), f_are_words, (PySem.W.fnOf "are_words" "are_words" (defArgs s_are_words) (defBody s_are_words) (defScope s_are_words) .none kV_are_words dc_are_words pm_are_words an_are_words cd_are_words ct_are_words), f_is_bits, (PySem.W.fnOf "is_bits" "is_bits" (defArgs s_is_bits) (defBody s_is_bits) (defScope s_is_bits) .none kV_is_bits dc_is_bits pm_is_bits an_is_bits cd_is_bits ct_is_bits), f_is_width, (PySem.W.fnOf "is_width" "is_width" (defArgs s_is_width) (defBody s_is_width) (defScope s_is_width) .none kV_is_width dc_is_width pm_is_width an_is_width cd_is_width ct_is_width), fa, (PySem.W.fnOf "law" "law" (defArgs s_law) (defBody s_law) (defScope s_law) .none kV_law dc_law pm_law an_law cd_law ct_law), t_WIDEST⟩ := ⟨PySem.W.mg_none_of X G z_len, PySem.W.mg_none_of X G z_abs, PySem.W.mg_none_of X G z_int, PySem.W.mg_none_of X G z_isinstance, PySem.W.mg_none_of X G z_bool, PySem.W.mg_none_of X G z_str, PySem.W.mg_none_of X G z_list, PySem.W.mg_none_of X G z_tuple, PySem.W.mg_none_of X G z_range, PySem.W.mg_none_of X G z_all, PySem.W.mg_none_of X G z_sum, PySem.W.mg_of X G u_WIDEST, PySem.W.mg_of X G a__law_next, F__law_next, b__law_next, PySem.W.mg_of X G a__law_same, F__law_same, b__law_same, PySem.W.mg_of X G a_bits_of, F_bits_of, b_bits_of, PySem.W.mg_of X G a_word_of, F_word_of, b_word_of, PySem.W.mg_of X G a_cut_word, F_cut_word, b_cut_word, PySem.W.mg_of X G a_one_count, F_one_count, b_one_count, PySem.W.mg_of X G a_number_width, F_number_width, b_number_width, PySem.W.mg_of X G a_is_count, F_is_count, b_is_count, PySem.W.mg_of X G a_is_word, F_is_word, b_is_word, PySem.W.mg_of X G a_are_words, F_are_words, b_are_words, PySem.W.mg_of X G a_is_bits, F_is_bits, b_is_bits, PySem.W.mg_of X G a_is_width, F_is_width, b_is_width, PySem.W.mg_of X G a_law, F_law, b_law⟩
  exact ⟨_, fun s v => .of_eq rfl, fun base _ _ => law_ok (ok_law T)⟩
theorem walk {l : PySem.W.OpenLaw} {q : Program} {loose : List Str} {XP : (Str → Option Value) → Heap → Prop} {YP : World → Heap → Prop} {d : DefRec} {K : Params → PySem.W.Frag} (hn : l.most = some 63) (hdf : d.params.defaults = [])
    (hY : ∀ (w : World) (h : Heap), YP w h → (K w.params).In h)
    (F : ∀ (w : World) (mg : Str → Option Value) (fa : Addr) (h : Heap), (K w.params).In h → h.Ns mainGlobals mg → mg d.name = some (.ref fa) →
      ∃ fd : FuncData, (∀ (s : Shared) (u : Value), BindsTo s fd ⟨[u], []⟩ [("script", u)]) ∧ ∀ base : Heap, (K w.params).In base → base.Ns mainGlobals mg → FnOk l.prog w (K w.params) mg base CX0 9 fa fd ["script"] (spLaw (K w.params))) :
    PySem.W.WalkO q loose XP YP l.row.toRowW d [] (fun f vs => PySem.call f vs) :=
  L2.walk_of (n := 63) (k := 9) (x := "script") (CX := fun _ => CX0) (sp := fun w => spLaw (K w.params)) hn (by decide) hdf ⟨rfl, by decide, by decide⟩ hY F (fun _ _ a ns hl _ hS => ⟨a, ns, rfl, hS, hl, fun _ => rfl⟩) fun _ _ _ _ _ z => z
end LW
open PySem PySem.W PyProof.Rows
set_option maxRecDepth 100000 in
set_option maxHeartbeats 0 in
theorem PySem.Challenge.cw_citywright_k01_whole_words_and_bits_holds : PySem.Challenge.rw_citywright_k01_whole_words_and_bits.Holds := by
  w_on; o_law; k_head; (case hw => w_witness2)
  k_fill
  refine LW.walk (l := PySem.Challenge.rw_citywright_k01_whole_words_and_bits) rfl rfl (fun w h Y => PySem.W.kIn_of Y) ?F
  case F =>
    intro w mg fa h KX G hmg
    refine' LW.all_mk KX G hmg ?a__law_next ?l__law_next ?c__law_next ?k__law_next ?a__law_same ?l__law_same ?c__law_same ?k__law_same ?a_bits_of ?l_bits_of ?c_bits_of ?k_bits_of ?a_word_of ?l_word_of ?c_word_of ?k_word_of ?a_cut_word ?l_cut_word ?c_cut_word ?k_cut_word ?a_one_count ?l_one_count ?c_one_count ?k_one_count ?a_number_width ?l_number_width ?c_number_width ?k_number_width ?a_is_count ?l_is_count ?c_is_count ?k_is_count ?a_is_word ?l_is_word ?c_is_word ?k_is_word ?a_are_words ?l_are_words ?c_are_words ?k_are_words ?a_is_bits ?l_is_bits ?c_is_bits ?k_is_bits ?a_is_width ?l_is_width ?c_is_width ?k_is_width ?a_law ?l_law ?c_law ?k_law ?z_len ?z_abs ?z_int ?z_isinstance ?z_bool ?z_str ?z_list ?z_tuple ?z_range ?z_all ?z_sum ?u_WIDEST
    (case a__law_next => k_is)
    (case l__law_next => k_is)
    (case c__law_next => k_is)
    (case k__law_next => k_is)
    (case a__law_same => k_is)
    (case l__law_same => k_is)
    (case c__law_same => k_is)
    (case k__law_same => k_is)
    (case a_bits_of => k_is)
    (case l_bits_of => k_is)
    (case c_bits_of => k_is)
    (case k_bits_of => k_is)
    (case a_word_of => k_is)
    (case l_word_of => k_is)
    (case c_word_of => k_is)
    (case k_word_of => k_is)
    (case a_cut_word => k_is)
    (case l_cut_word => k_is)
    (case c_cut_word => k_is)
    (case k_cut_word => k_is)
    (case a_one_count => k_is)
    (case l_one_count => k_is)
    (case c_one_count => k_is)
    (case k_one_count => k_is)
    (case a_number_width => k_is)
    (case l_number_width => k_is)
    (case c_number_width => k_is)
    (case k_number_width => k_is)
    (case a_is_count => k_is)
    (case l_is_count => k_is)
    (case c_is_count => k_is)
    (case k_is_count => k_is)
    (case a_is_word => k_is)
    (case l_is_word => k_is)
    (case c_is_word => k_is)
    (case k_is_word => k_is)
    (case a_are_words => k_is)
    (case l_are_words => k_is)
    (case c_are_words => k_is)
    (case k_are_words => k_is)
    (case a_is_bits => k_is)
    (case l_is_bits => k_is)
    (case c_is_bits => k_is)
    (case k_is_bits => k_is)
    (case a_is_width => k_is)
    (case l_is_width => k_is)
    (case c_is_width => k_is)
    (case k_is_width => k_is)
    (case a_law => k_is)
    (case l_law => k_is)
    (case c_law => k_is)
    (case k_law => k_is)
    (case z_len => k_is)
    (case z_abs => k_is)
    (case z_int => k_is)
    (case z_isinstance => k_is)
    (case z_bool => k_is)
    (case z_str => k_is)
    (case z_list => k_is)
    (case z_tuple => k_is)
    (case z_range => k_is)
    (case z_all => k_is)
    (case z_sum => k_is)
    (case u_WIDEST => k_is)
#print axioms PySem.Challenge.cw_citywright_k01_whole_words_and_bits_holds
