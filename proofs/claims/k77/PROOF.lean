import PyProof.Rows.All
import Wide.All
import OpenK.AllK
import Wide.FinOn
import HandS.ForMost
import HandS.Exc
import HandS.WordsExc
import HandS.ExcSuper
import HandS.ExcIs
import HandS.ExcField
import KE.KSuper
import KE.KExcSuper
import HandS.TupAny
import HandS.TupMul
import HandS.Wide
import HandS.WideBits
import HandS.Gcd
import HandS.IsInst
import HandS.Walk
import KE.DataEq
import KE.DataCmp
import KE.DataMinMax
import KE.SortData
import KE.GoesEnum
import HandS.ExcInit
import HandS.TryOnly
import KE.KExcIs
import HandS.Ends
import HandS.Small
import HandS.Deep
import HandS.TryMany
import PySem.Challenge.RW_sequencesandadvice_k77_sets_parted_and_m
set_option Elab.async false
set_option linter.all false
set_option maxRecDepth 100000
set_option maxHeartbeats 4000000
/-! PL, part x: an own error class over ValueError whose __init__ says super().__init__('..'); self.f = f -/
namespace PLX
open PySem PySem.W PySem.Calls PySem.Spec PyProof.Rows PySem.HandSPX
section
variable {prog : Program} {w : World} {A : Around} {E : Value → Shared → Prop} {h : Heap} {g : Array GenState} {d : Drawn} {t : Nat} {os : OsState}
variable {nm q : Str} {C N : Addr} {bs bm : List Value} {hdct : Bool} {sn : List Str} {sub : List Value} {ab : Bool} {col : Option Bool} {dd : Option Addr} {k0 k1 k2 k3 k5 : Option Value}
/-- the bound ValueError.__init__ called -/
theorem call_mw {u e t0 : Addr} {rest : List Value} {Q : Value → Shared → Prop} (hm : refsVE bm = true)
    (hC : h.get? C = some (excClassObj nm q C N bs bm hdct sn sub ab col dd k0 k1 k2 k3 k5 "ValueError.__new__")) (he : h.get? e = some (excO C t0)) (hu : h.get? u = some (kxs_mw "ValueError.__init__" e)) (hrest : rest.length ≤ sizeLine)
    (hq : ∀ h' t1, (∀ b o, b ≠ e → h.get? b = some o → h'.get? b = some o) → h'.get? e = some (excO C t1) → Q .none ⟨h', g, d, t, os⟩) :
    wpAny (model prog w) A (call (.ref u) rest) Q E ⟨h, g, d, t, os⟩ := by
  refine wpAny_call (codeAny_of_tree ?_)
  show wpAny _ A.in1 (callAny (.ref u) ⟨rest, []⟩) _ _ _
  simp only [callAny]
  refine wpAny_bind (wpAny_load hu ?_)
  simp only [kxs_mw, show (Value.type "method-wrapper" == Value.type "method" || Value.type "method-wrapper" == Value.type "builtin_function_or_method" || Value.type "method-wrapper" == Value.type "method-wrapper") = true by decide, if_true]
  refine KFB.if_so (by decide) ?_
  refine wpAny_bind (PySem.ESX.check_bound F.excBase_ValueError hC he rfl ?_)
  refine wpAny_bind (wpAny_pure (wpAny_pure ?_))
  refine ⟨Code.quiet_builtin _ (by decide +kernel), codeAny_builtin F.excBase_ValueError.initEntry ?_⟩
  rw [Around.under_plainId F.excBase_ValueError.init.plain _]
  wp_walk
  refine hq _ h.objs.size (fun b o hb ho => ?_) ?_
  · rw [Heap.get?_update_other _ _ (Ne.symm hb)]
    exact Heap.get?_push_of_some _ ho
  · rw [Heap.get?_update_self _ (Heap.get?_push_of_some _ he) rfl]
    rfl
end
end PLX
/-! PL, part a: plain values, the store, how they lie in the abstract heap. -/
namespace PL
open PySem PySem.Spec PyProof.Rows L2
/-- a plain value: tuples and finished lists are trees; frz: a list that is only read; loc: a place of the store; con: any other value -/
inductive PV where
  | non | bl (b : Bool) | int (i : Int) | str (x : Str)
  | tup (xs : List PV) | lst (xs : List PV) | frz (xs : List PV) | loc (l : Nat) | con (v : V)
  | exc (a d : Nat) (ns : List Str) (xs : List PV)
/-- what stands at a place of the store -/
inductive PO where
  | lst (xs : List PV)
abbrev Store := List PO
inductive Res (α : Type) where
  | ok (a : α) (st : Store)
  | err (n : Str) (fs : Option (List (Str × PV))) (st : Store)
  | stuck
def Res.bind {α β : Type} : Res α → (α → Store → Res β) → Res β
  | .ok a st, k => k a st
  | .err n fs st, _ => .err n fs st
  | .stuck, _ => .stuck
/-- the frozen part of the heap, and where the places of the store lie -/
structure Wo where
  F : Hp
  ρ : List Addr
section
variable (K : PySem.W.Frag) (ω : Wo)
mutual
inductive Rep : PV → V → Prop
  | non : Rep .non .non
  | bl (b : Bool) : Rep (.bl b) (.bl b)
  | int (i : Int) : Rep (.int i) (.int i)
  | str (x : Str) : Rep (.str x) (.str x)
  | tup {a : Addr} {vs : List V} {xs : List PV} : ω.F a = some (.tup vs) → Reps xs vs → Rep (.tup xs) (.ref a)
  | lst {a : Addr} {vs : List V} {xs : List PV} : ω.F a = some (.lst vs) → Reps xs vs → Rep (.lst xs) (.ref a)
  | frz {a : Addr} {vs : List V} {xs : List PV} : SqL K ω.F a vs → Reps xs vs → Rep (.frz xs) (.ref a)
  | loc {a : Addr} {l : Nat} : ω.ρ[l]? = some a → Rep (.loc l) (.ref a)
  | con (v : V) : Rep (.con v) v
  | exc {a d : Addr} {ns : List Str} {xs : List PV} {fs : List (Str × V)} : ω.F d = some (.xd fs) → fs.map (·.1) = ns → Reps xs (fs.map (·.2)) → Rep (.exc a d ns xs) (.ref a)
inductive Reps : List PV → List V → Prop
  | nil : Reps [] []
  | cons {x : PV} {xs : List PV} {v : V} {vs : List V} : Rep x v → Reps xs vs → Reps (x :: xs) (v :: vs)
end
end
/-- the frozen part grows, the places stay -/
structure Wo.Le (ω ω' : Wo) : Prop where
  fz : Same ω.F ω'.F
  pre : ∃ r, ω'.ρ = ω.ρ ++ r
theorem Wo.Le.refl (ω : Wo) : ω.Le ω := ⟨Same.refl _, [], by simp⟩
theorem Wo.Le.trans {a b c : Wo} (h : a.Le b) (h' : b.Le c) : a.Le c := by
  obtain ⟨r, e⟩ := h.pre
  obtain ⟨r', e'⟩ := h'.pre
  exact ⟨h.fz.trans h'.fz, r ++ r', by rw [e', e, List.append_assoc]⟩
theorem Wo.Le.at {a b : Wo} (h : a.Le b) {l : Nat} {p : Addr} (e : a.ρ[l]? = some p) : b.ρ[l]? = some p := by
  obtain ⟨r, q⟩ := h.pre
  rw [q]
  have hl : l < a.ρ.length := by
    rcases Nat.lt_or_ge l a.ρ.length with z | z
    · exact z
    · rw [List.getElem?_eq_none z] at e; cases e
  rw [List.getElem?_append_left hl]
  exact e
section
variable {K : PySem.W.Frag} {ω ω' : Wo}
mutual
theorem Rep.mono (h : ω.Le ω') : ∀ {x : PV} {v : V}, Rep K ω x v → Rep K ω' x v
  | _, _, .non => .non
  | _, _, .bl b => .bl b
  | _, _, .int i => .int i
  | _, _, .str x => .str x
  | _, _, .tup e r => .tup (h.fz _ _ e) (Reps.mono h r)
  | _, _, .lst e r => .lst (h.fz _ _ e) (Reps.mono h r)
  | _, _, .frz e r => .frz (h.fz.seq e) (Reps.mono h r)
  | _, _, .loc e => .loc (h.at e)
  | _, _, .con v => .con v
  | _, _, .exc e n r => .exc (h.fz _ _ e) n (Reps.mono h r)
theorem Reps.mono (h : ω.Le ω') : ∀ {xs : List PV} {vs : List V}, Reps K ω xs vs → Reps K ω' xs vs
  | _, _, .nil => .nil
  | _, _, .cons r t => .cons (Rep.mono h r) (Reps.mono h t)
end
theorem Reps.length : ∀ {xs : List PV} {vs : List V}, Reps K ω xs vs → xs.length = vs.length
  | _, _, .nil => rfl
  | _, _, .cons _ t => by simp [Reps.length t]
theorem Reps.get : ∀ {xs : List PV} {vs : List V} {i : Nat} {x : PV}, Reps K ω xs vs → xs[i]? = some x → ∃ v, vs[i]? = some v ∧ Rep K ω x v
  | _, _, _, _, .nil, e => by simp at e
  | _, _, 0, _, .cons r _, e => by simp at e; subst e; exact ⟨_, rfl, r⟩
  | _, _, i + 1, x, .cons _ t, e => by
    obtain ⟨u, h1, h2⟩ := Reps.get (i := i) (x := x) t (by simpa using e)
    exact ⟨u, by simpa using h1, h2⟩
theorem Reps.get' : ∀ {xs : List PV} {vs : List V} {i : Nat} {v : V}, Reps K ω xs vs → vs[i]? = some v → ∃ x, xs[i]? = some x ∧ Rep K ω x v
  | _, _, _, _, .nil, e => by simp at e
  | _, _, 0, _, .cons r _, e => by simp at e; subst e; exact ⟨_, rfl, r⟩
  | _, _, i + 1, x, .cons _ t, e => by
    obtain ⟨u, h1, h2⟩ := Reps.get' (i := i) (v := x) t (by simpa using e)
    exact ⟨u, by simpa using h1, h2⟩
theorem Reps.append : ∀ {xs ys : List PV} {vs ws : List V}, Reps K ω xs vs → Reps K ω ys ws → Reps K ω (xs ++ ys) (vs ++ ws)
  | _, _, _, _, .nil, s => s
  | _, _, _, _, .cons r t, s => .cons r (Reps.append t s)
theorem Reps.take : ∀ {xs : List PV} {vs : List V} (n : Nat), Reps K ω xs vs → Reps K ω (xs.take n) (vs.take n)
  | _, _, 0, _ => by simp; exact .nil
  | _, _, _ + 1, .nil => .nil
  | _, _, n + 1, .cons r t => .cons r (Reps.take n t)
theorem Reps.drop : ∀ {xs : List PV} {vs : List V} (n : Nat), Reps K ω xs vs → Reps K ω (xs.drop n) (vs.drop n)
  | _, _, 0, r => r
  | _, _, _ + 1, .nil => .nil
  | _, _, n + 1, .cons _ t => Reps.drop n t
theorem Reps.set : ∀ {xs : List PV} {vs : List V} {x : PV} {v : V} (i : Nat), Rep K ω x v → Reps K ω xs vs → Reps K ω (xs.set i x) (vs.set i v)
  | _, _, _, _, _, _, .nil => .nil
  | _, _, _, _, 0, q, .cons _ t => .cons q t
  | _, _, _, _, i + 1, q, .cons r t => .cons r (Reps.set i q t)
theorem Reps.replicate : ∀ {xs : List PV} {vs : List V} (n : Nat), Reps K ω xs vs → Reps K ω (List.replicate n xs).flatten (List.replicate n vs).flatten
  | _, _, 0, _ => .nil
  | xs, vs, n + 1, r => by
    rw [List.replicate_succ, List.replicate_succ, List.flatten_cons, List.flatten_cons]
    exact r.append (Reps.replicate n r)
theorem Reps.one {x : PV} {v : V} (r : Rep K ω x v) : Reps K ω [x] [v] := .cons r .nil
end
/-- what a place of the store holds -/
def ObjR (K : PySem.W.Frag) (ω : Wo) (H : Hp) (a : Addr) : PO → Prop
  | .lst xs => ∃ vs, H a = some (.lst vs) ∧ Reps K ω xs vs
theorem ObjR.some {K : PySem.W.Frag} {ω : Wo} {H : Hp} {a : Addr} : ∀ {o : PO}, ObjR K ω H a o → ∃ u, H a = some u
  | .lst _, ⟨_, e, _⟩ => ⟨_, e⟩
structure Wd (K : PySem.W.Frag) (ω : Wo) (st : Store) (H : Hp) : Prop where
  sub : Same ω.F H
  len : ω.ρ.length = st.length
  nd : ω.ρ.Nodup
  sep : ∀ a ∈ ω.ρ, ω.F a = none
  obj : ∀ (l : Nat) (a : Addr) (o : PO), ω.ρ[l]? = some a → st[l]? = some o → ObjR K ω H a o
structure Ext (ω : Wo) (H : Hp) (ω' : Wo) (H' : Hp) : Prop where
  le : ω.Le ω'
  oth : ∀ b o, H b = some o → b ∉ ω.ρ → H' b = some o
  live : ∀ b, H b ≠ none → H' b ≠ none
  nF : ∀ b, ω'.F b ≠ none → ω.F b ≠ none ∨ H b = none
  nρ : ∀ b, b ∈ ω'.ρ → b ∈ ω.ρ ∨ H b = none
theorem Ext.refl (ω : Wo) (H : Hp) : Ext ω H ω H := ⟨.refl ω, fun _ _ h _ => h, fun _ h => h, fun _ h => .inl h, fun _ h => .inl h⟩
theorem Ext.trans {ω1 ω2 ω3 : Wo} {H1 H2 H3 : Hp} (a : Ext ω1 H1 ω2 H2) (b : Ext ω2 H2 ω3 H3) : Ext ω1 H1 ω3 H3 where
  le := a.le.trans b.le
  oth := fun p o h n => b.oth p o (a.oth p o h n) fun m => by
    rcases a.nρ p m with z | z
    · exact n z
    · rw [h] at z; cases z
  live := fun p h => b.live p (a.live p h)
  nF := fun p h => by
    rcases b.nF p h with z | z
    · exact a.nF p z
    · refine .inr ?_
      cases q : H1 p with
      | none => rfl
      | some o => exact absurd z (a.live p (by rw [q]; simp))
  nρ := fun p h => by
    rcases b.nρ p h with z | z
    · exact a.nρ p z
    · refine .inr ?_
      cases q : H1 p with
      | none => rfl
      | some o => exact absurd z (a.live p (by rw [q]; simp))
section
variable {K : PySem.W.Frag} {ω ω' : Wo} {st st' : Store} {H H' : Hp}
theorem Wd.lt (h : Wd K ω st H) {l : Nat} {a : Addr} (e : ω.ρ[l]? = some a) : l < st.length := by
  rw [← h.len]
  rcases Nat.lt_or_ge l ω.ρ.length with z | z
  · exact z
  · rw [List.getElem?_eq_none z] at e; cases e
theorem Wd.there (h : Wd K ω st H) {a : Addr} (m : a ∈ ω.ρ) : ∃ u, H a = some u := by
  obtain ⟨l, hl, e⟩ := List.getElem_of_mem m
  have e' : ω.ρ[l]? = some a := by rw [List.getElem?_eq_getElem hl, e]
  have hs := h.lt e'
  exact (h.obj l a st[l] e' (List.getElem?_eq_getElem hs)).some
theorem Wd.ne (h : Wd K ω st H) {a p : Addr} (m : a ∈ ω.ρ) (n : H p = none) : a ≠ p := by
  obtain ⟨u, e⟩ := h.there m
  exact ne_of_none e n
theorem Wd.fresh (h : Wd K ω st H) {p : Addr} (n : H p = none) : ω.F p = none := h.sub.free n
/-- a new object is frozen at once -/
abbrev Wo.fz (ω : Wo) (p : Addr) (o : HO) : Wo := ⟨upd ω.F p o, ω.ρ⟩
theorem Wo.fz_le {p : Addr} {o : HO} (n : ω.F p = none) : ω.Le (ω.fz p o) :=
  ⟨fun b u e => by rw [show (ω.fz p o).F = upd ω.F p o from rfl, upd_ne (ne_of_none e n)]; exact e, [], by simp⟩
theorem Wd.fz (h : Wd K ω st H) {p : Addr} (n : H p = none) (o : HO) : Wd K (ω.fz p o) st (upd H p o) ∧ Ext ω H (ω.fz p o) (upd H p o) := by
  have nF := h.fresh n
  have le := Wo.fz_le (o := o) nF
  refine ⟨⟨fun b u e => ?_, h.len, h.nd, fun a m => ?_, fun l a q e1 e2 => ?_⟩, le, fun b u e m => ?_, fun b z => ?_, fun b z => ?_, fun b m => .inl m⟩
  · by_cases hb : b = p
    · subst hb
      have e : upd ω.F b o b = some u := e
      rw [upd_same] at e ⊢
      exact e
    · have e : upd ω.F p o b = some u := e
      rw [upd_ne hb] at e ⊢
      exact h.sub b u e
  · show upd ω.F p o a = none
    rw [upd_ne (h.ne m n)]
    exact h.sep a m
  · have hq := h.obj l a q e1 e2
    have na : a ≠ p := h.ne (List.mem_of_getElem? e1) n
    cases q with
    | lst xs =>
      obtain ⟨vs, e, r⟩ := hq
      exact ⟨vs, by rw [upd_ne na]; exact e, r.mono le⟩
  · rw [upd_ne (ne_of_none e n)]
    exact e
  · by_cases hb : b = p
    · subst hb; rw [upd_same]; simp
    · rw [upd_ne hb]; exact z
  · by_cases hb : b = p
    · subst hb; exact .inr n
    · have z : upd ω.F p o b ≠ none := z
      rw [upd_ne hb] at z
      exact .inl z
/-- a new place of the store -/
abbrev Wo.nw (ω : Wo) (p : Addr) : Wo := ⟨ω.F, ω.ρ ++ [p]⟩
theorem Wo.nw_le {p : Addr} : ω.Le (ω.nw p) := ⟨Same.refl _, [p], rfl⟩
theorem Wd.nw (h : Wd K ω st H) {p : Addr} (n : H p = none) {xs : List PV} {vs : List V} (r : Reps K ω xs vs) :
    Wd K (ω.nw p) (st ++ [.lst xs]) (upd H p (.lst vs)) ∧ Ext ω H (ω.nw p) (upd H p (.lst vs)) := by
  have nF := h.fresh n
  have le : ω.Le (ω.nw p) := Wo.nw_le
  refine ⟨⟨fun b u e => ?_, ?_, ?_, fun a m => ?_, fun l a q e1 e2 => ?_⟩, le, fun b u e m => ?_, fun b z => ?_, fun b z => .inl z, fun b m => ?_⟩
  · rw [upd_ne (ne_of_none (h.sub b u e) n)]
    exact h.sub b u e
  · simp [h.len]
  · refine List.nodup_append.mpr ⟨h.nd, by simp, fun a ha b hb => ?_⟩
    have e : b = p := by simpa using hb
    subst e
    exact h.ne ha n
  · rcases List.mem_append.mp m with m | m
    · exact h.sep a m
    · have e : a = p := by simpa using m
      subst e; exact nF
  · rcases Nat.lt_or_ge l st.length with hl | hl
    · have e1' : ω.ρ[l]? = some a := by
        have e1 : (ω.ρ ++ [p])[l]? = some a := e1
        rw [List.getElem?_append_left (by rw [h.len]; exact hl)] at e1
        exact e1
      rw [List.getElem?_append_left hl] at e2
      have hq := h.obj l a q e1' e2
      have na : a ≠ p := h.ne (List.mem_of_getElem? e1') n
      cases q with
      | lst ys =>
        obtain ⟨ws, e, r'⟩ := hq
        exact ⟨ws, by rw [upd_ne na]; exact e, r'.mono le⟩
    · have e1 : (ω.ρ ++ [p])[l]? = some a := e1
      rw [List.getElem?_append_right (by rw [h.len]; exact hl)] at e1
      rw [List.getElem?_append_right hl] at e2
      have z : l - st.length = 0 := by
        rcases Nat.eq_zero_or_pos (l - st.length) with z | z
        · exact z
        · rw [List.getElem?_eq_none (by simp only [List.length_singleton]; omega)] at e2; cases e2
      rw [z] at e2
      rw [h.len, z] at e1
      simp only [List.getElem?_cons_zero, Option.some.injEq] at e1 e2
      subst e1
      subst e2
      exact ⟨vs, upd_same, r.mono le⟩
  · rw [upd_ne (ne_of_none e n)]
    exact e
  · by_cases hb : b = p
    · subst hb; rw [upd_same]; simp
    · rw [upd_ne hb]; exact z
  · rcases List.mem_append.mp m with m | m
    · exact .inl m
    · have e : b = p := by simpa using m
      subst e; exact .inr n
/-- a place of the store is written -/
theorem Wd.wr (h : Wd K ω st H) {l : Nat} {a : Addr} (e : ω.ρ[l]? = some a) {xs : List PV} {vs : List V} (r : Reps K ω xs vs) :
    Wd K ω (st.set l (.lst xs)) (upd H a (.lst vs)) ∧ Ext ω H ω (upd H a (.lst vs)) := by
  have ma := List.mem_of_getElem? e
  have sepF : ∀ b u, ω.F b = some u → b ≠ a := fun b u q z => by
    subst z
    rw [h.sep b ma] at q; cases q
  have hl := h.lt e
  refine ⟨⟨fun b u q => ?_, ?_, h.nd, h.sep, fun l' b q e1 e2 => ?_⟩, .refl ω, fun b u q m => ?_, fun b z => ?_, fun b z => .inl z, fun b m => .inl m⟩
  · rw [upd_ne (sepF b u q)]
    exact h.sub b u q
  · rw [List.length_set]; exact h.len
  · by_cases hll : l' = l
    · subst hll
      rw [e] at e1; cases e1
      rw [List.getElem?_set_self hl] at e2; cases e2
      exact ⟨vs, upd_same, r⟩
    · rw [List.getElem?_set_ne (Ne.symm hll)] at e2
      have hq := h.obj l' b q e1 e2
      have nb : b ≠ a := fun z => by
        subst z
        have h1 : l' < ω.ρ.length := by rw [h.len]; exact h.lt e1
        exact hll ((List.getElem?_inj h1 h.nd).mp (e1.trans e.symm))
      cases q with
      | lst ys =>
        obtain ⟨ws, e', r'⟩ := hq
        exact ⟨ws, by rw [upd_ne nb]; exact e', r'⟩
  · have nb : b ≠ a := fun z => m (z ▸ ma)
    rw [upd_ne nb]
    exact q
  · by_cases hb : b = a
    · subst hb; rw [upd_same]; simp
    · rw [upd_ne hb]; exact z
end
/-! ### environments -/
abbrev PEnv := List (Option PV)
structure REnv (K : PySem.W.Frag) (ω : Wo) (env : PEnv) (σ : L2.St) : Prop where
  len : env.length = σ.length
  at' : ∀ (i : Nat) (v : PV), env[i]? = some (some v) → ∃ x, σ[i]? = some (some x) ∧ Rep K ω v x
section
variable {K : PySem.W.Frag} {ω ω' : Wo} {env : PEnv} {σ : L2.St}
theorem REnv.mono (h : REnv K ω env σ) (le : ω.Le ω') : REnv K ω' env σ := ⟨h.len, fun i v e => let ⟨x, e1, r⟩ := h.at' i v e; ⟨x, e1, r.mono le⟩⟩
theorem REnv.set (h : REnv K ω env σ) {v : PV} {x : V} (r : Rep K ω v x) (i : Nat) : REnv K ω (env.set i (some v)) (σ.set i (some x)) := by
  refine ⟨by simp [h.len], fun j u e => ?_⟩
  by_cases hj : i = j
  · subst hj
    by_cases hi : i < env.length
    · rw [List.getElem?_set_self hi] at e
      cases e
      exact ⟨x, List.getElem?_set_self (by rw [← h.len]; exact hi), r⟩
    · rw [List.getElem?_eq_none (by simpa using hi)] at e; cases e
  · rw [List.getElem?_set_ne hj] at e ⊢
    exact h.at' j u e
theorem REnv.unset (h : REnv K ω env σ) (i : Nat) : REnv K ω (env.set i none) (σ.set i none) := by
  refine ⟨by simp [h.len], fun j u e => ?_⟩
  by_cases hj : i = j
  · subst hj
    by_cases hi : i < env.length
    · rw [List.getElem?_set_self hi] at e; cases e
    · rw [List.getElem?_eq_none (by simpa using hi)] at e; cases e
  · rw [List.getElem?_set_ne hj] at e ⊢
    exact h.at' j u e
/-- some slots forgotten -/
def wipeP (env : PEnv) : List Nat → PEnv
  | [] => env
  | v :: vs => (wipeP env vs).set v none
theorem REnv.wipe (h : REnv K ω env σ) : ∀ vs, REnv K ω (wipeP env vs) (L2.wipe σ vs)
  | [] => h
  | v :: vs => (REnv.wipe h vs).unset v
end
/-! ### what is wanted behind -/
/-- the written part and the module's names -/
structure Gd where
  K : PySem.W.Frag
  mg : Str → Option Value
abbrev gd (X : Cx) : Gd := ⟨X.K, X.mg⟩
/-- an exception's own fields, in its dict at d -/
def XRep (K : PySem.W.Frag) (ω : Wo) (H₀ H : Hp) : Option (List (Str × PV)) → Option Addr → Prop
  | none, d => d = none
  | some fs, d => ∃ p vs, d = some p ∧ H₀ p = none ∧ H p = some (.xd vs) ∧ ω.F p = none ∧ p ∉ ω.ρ ∧ fs.map (·.1) = vs.map (·.1) ∧ Reps K ω (fs.map (·.2)) (vs.map (·.2))
theorem XRep.shift {K : PySem.W.Frag} {ω : Wo} {H₀ H₁ H : Hp} {ω₀ ω₁ : Wo} (x : Ext ω₀ H₀ ω₁ H₁) : ∀ {fs : Option (List (Str × PV))} {d : Option Addr}, XRep K ω H₁ H fs d → XRep K ω H₀ H fs d
  | none, _, h => h
  | some _, _, ⟨p, vs, e, n, r⟩ => ⟨p, vs, e, by
      cases q : H₀ p with
      | none => rfl
      | some o => exact absurd n (x.live p (by rw [q]; simp)), r⟩
def After {α β : Type} (G : Gd) (E : XK) (ω : Wo) (H : Hp) (r : Res α) (Rel : Wo → α → β → Prop) (Q : β → Hp → Prop) : Prop :=
  match r with
  | .ok a st' => ∀ ω' H' x, Ext ω H ω' H' → Wd G.K ω' st' H' → Rel ω' a x → Q x H'
  | .err n fs st' => ∀ ω' H' d cls, Ext ω H ω' H' → Wd G.K ω' st' H' → G.mg n = some cls → XRep G.K ω' H H' fs d → E cls d H'
  | .stuck => False
section
variable {α β γ δ : Type} {G : Gd} {E : XK} {ω ω1 : Wo} {H H1 : Hp}
theorem After.shift {r : Res α} {Rel : Wo → α → β → Prop} {Q : β → Hp → Prop} (h : After G E ω H r Rel Q) (x : Ext ω H ω1 H1) : After G E ω1 H1 r Rel Q := by
  cases r with
  | ok a st' => exact fun ω' H' y e w r => h ω' H' y (x.trans e) w r
  | err n fs st' => exact fun ω' H' d cls e w r y => h ω' H' d cls (x.trans e) w r (y.shift x)
  | stuck => exact h
theorem After.bind {r : Res α} {k : α → Store → Res γ} {Rel : Wo → α → β → Prop} {Rel' : Wo → γ → δ → Prop} {Q : δ → Hp → Prop} (h : After G E ω H (r.bind k) Rel' Q) :
    After G E ω H r Rel fun x H1 => ∃ ω1 st1 a, Ext ω H ω1 H1 ∧ Wd G.K ω1 st1 H1 ∧ Rel ω1 a x ∧ After G E ω1 H1 (k a st1) Rel' Q := by
  cases r with
  | ok a st' => exact fun ω' H' y e w q => ⟨ω', st', a, e, w, q, After.shift h e⟩
  | err n fs st' => exact h
  | stuck => exact h
theorem After.mono {r : Res α} {Rel : Wo → α → β → Prop} {Q Q' : β → Hp → Prop} (h : After G E ω H r Rel Q) (hq : ∀ x H', Q x H' → Q' x H') : After G E ω H r Rel Q' := by
  cases r with
  | ok a st' => exact fun ω' H' y e w q => hq _ _ (h ω' H' y e w q)
  | err n fs st' => exact h
  | stuck => exact h
theorem After.ok_here {a : α} {st : Store} {b : β} {Rel : Wo → α → β → Prop} {Q : β → Hp → Prop} (h : After G E ω H (.ok a st) Rel Q) (w : Wd G.K ω st H) (r : Rel ω a b) : Q b H := h ω H b (.refl ω H) w r
end
end PL
/-! PL, part b: expressions. -/
namespace PL
open PySem PySem.Spec PyProof.Rows L2
abbrev EM := PEnv → Store → Res PV
abbrev AM := PEnv → Store → Res (List PV)
abbrev TM := PEnv → Store → Res Bool
abbrev OM := PEnv → Store → Res (Option Int)
abbrev RV (K : PySem.W.Frag) : Wo → PV → V → Prop := fun ω v x => Rep K ω v x
abbrev RL (K : PySem.W.Frag) : Wo → List PV → List V → Prop := fun ω v x => Reps K ω v x
abbrev RQ {α : Type} : Wo → α → α → Prop := fun _ a b => a = b
abbrev wx (W : WX) (σ : L2.St) : XK := fun c d H => W c d σ H
/-- the reading by a plain function -/
def tG {α β : Type} (X : Cx) (W : WX) (Rel : Wo → α → β → Prop) (f : PEnv → Store → Res α) : L2.St → Hp → (β → Hp → Prop) → Prop :=
  fun σ H Q => ∃ ω st env, Wd X.K ω st H ∧ REnv X.K ω env σ ∧ After (gd X) (wx W σ) ω H (f env st) Rel Q
abbrev ME (X : Cx) (W : WX) (e : Expr) (f : EM) : Prop := PE X e (tG X W (RV X.K) f)
abbrev MT (X : Cx) (W : WX) (e : Expr) (f : TM) : Prop := PT X e (tG X W RQ f)
abbrev MW (X : Cx) (W : WX) (e : Expr) (f : TM) : Prop := PW X e (tG X W RQ f)
abbrev MA (X : Cx) (W : WX) (es : List Expr) (f : AM) : Prop := PA X es (tG X W (RL X.K) f)
abbrev MO (X : Cx) (W : WX) (e : Option Expr) (f : OM) : Prop := L2.PO X e (tG X W RQ f)
section
variable {X : Cx}
theorem peI {e : Expr} {t t' : TE} (h : PE X e t) (i : ∀ σ H Q, t' σ H Q → t σ H Q) : PE X e t' := ⟨fun pins s σ H Q I q => h.run pins s σ H Q I (i σ H Q q)⟩
theorem ptI {e : Expr} {t t' : TT} (h : PT X e t) (i : ∀ σ H Q, t' σ H Q → t σ H Q) : PT X e t' := ⟨fun pins s σ H Q I q => h.run pins s σ H Q I (i σ H Q q)⟩
theorem pwI {e : Expr} {t t' : TT} (h : PW X e t) (i : ∀ σ H Q, t' σ H Q → t σ H Q) : PW X e t' := ⟨fun wh pins s σ H Q I q => h.run wh pins s σ H Q I (i σ H Q q)⟩
theorem paI {e : List Expr} {t t' : TA} (h : PA X e t) (i : ∀ σ H Q, t' σ H Q → t σ H Q) : PA X e t' := ⟨fun pos pins s σ H Q I q => h.run pos pins s σ H Q I (i σ H Q q)⟩
theorem poI {e : Option Expr} {t t' : TO} (h : L2.PO X e t) (i : ∀ σ H Q, t' σ H Q → t σ H Q) : L2.PO X e t' := ⟨fun pins s σ H Q I q => h.run pins s σ H Q I (i σ H Q q)⟩
theorem psI {e : Stmt} {t t' : TS} (h : PS X e t) (i : ∀ D σ H, t' D σ H → t D σ H) : PS X e t' := ⟨fun pins s σ H D I q => h.run pins s σ H D I (i D σ H q)⟩
theorem pssI {e : List Stmt} {t t' : TS} (h : PSs X e t) (i : ∀ D σ H, t' D σ H → t D σ H) : PSs X e t' := ⟨fun pins s σ H D I q => h.run pins s σ H D I (i D σ H q)⟩
end
/-! ### names, constants -/
def eVar (i : Nat) : EM := fun env st => match env[i]? with
  | some (some v) => .ok v st
  | _ => .stuck
def eC (v : PV) : EM := fun _ st => .ok v st
section
variable {X : Cx} {W : WX} {pos : Pos}
theorem me_var (i : Nat) {x : Str} (hN : X.N[i]? = some x := by rfl) (hv : Vis X.env.scope x := by first | exact Or.inl rfl | exact Or.inr (Or.inl rfl) | exact Or.inr (Or.inr rfl)) (hd : (x == ("__debug__" : Str)) = false := by decide)
    (hcd : (x == ("__classdict__" : Str)) = false := by decide) : ME X W (.Name x pos) (eVar i) := by
  refine peI (pe_var hN hv hd hcd) ?_
  rintro σ H Q ⟨ω, st, env, wd, re, h⟩
  unfold eVar at h
  split at h
  · rename_i v e
    obtain ⟨y, e', r⟩ := re.at' i v e
    exact ⟨y, e', h.ok_here wd r⟩
  · exact False.elim h
theorem me_c {e : Expr} {v : V} {p : PV} (h : PE X e (tC v)) (r : ∀ ω, Rep X.K ω p v) : ME X W e (eC p) :=
  peI h fun σ H Q ⟨ω, st, env, wd, re, h⟩ => h.ok_here wd (r ω)
theorem me_int {i : Int} {j} : ME X W (.Constant (.int i) j pos) (eC (.int i)) := me_c pe_int fun _ => .int i
theorem me_bl {b : Bool} {j} : ME X W (.Constant (.bool b) j pos) (eC (.bl b)) := me_c pe_bl fun _ => .bl b
theorem me_non {j} : ME X W (.Constant .none j pos) (eC .non) := me_c pe_non fun _ => .non
theorem me_str {x : Str} {j} : ME X W (.Constant (.str x) j pos) (eC (.str x)) := me_c pe_str fun _ => .str x
/-- a module's constant -/
theorem me_gstr {x z : Str} {t : Tok} (hg : Gl X x) (hm : X.mg x = some (.str z t)) (hd : (x == ("__debug__" : Str)) = false := by decide) : ME X W (.Name x pos) (eC (.str z)) := me_c (pe_glob (v := .str z) hg hm ⟨t, rfl⟩ hd) fun _ => .str z
theorem me_gint {x : Str} {z : Int} {t : Tok} (hg : Gl X x) (hm : X.mg x = some (.int z t)) (hd : (x == ("__debug__" : Str)) = false := by decide) : ME X W (.Name x pos) (eC (.int z)) := me_c (pe_glob (v := .int z) hg hm ⟨t, rfl⟩ hd) fun _ => .int z
/-- a module's class or def, a built-in type, as a value -/
theorem me_gval {x : Str} {v : V} {u : Value} (hg : Gl X x) (hm : X.mg x = some u) (r : RelV v u) (hd : (x == ("__debug__" : Str)) = false := by decide) : ME X W (.Name x pos) (eC (.con v)) := me_c (pe_glob hg hm r hd) fun _ => .con v
theorem me_bval {x : Str} {v : V} {u : Value} (hg : Gl X x) (hm : X.mg x = none) (hv : bootBuiltins x = some u) (r : RelV v u) (hn : x ≠ "__name__" := by decide) (hd : (x == ("__debug__" : Str)) = false := by decide) : ME X W (.Name x pos) (eC (.con v)) :=
  me_c (pe_bltn hg hm hv r hn hd) fun _ => .con v
end
/-! ### operations of two and of one -/
def OpS (X : Cx) (f : Value → Value → Sem Value) (p : PV → PV → Store → Res PV) : Prop :=
  ∃ r, OpR X f r ∧ ∀ (E : XK) (ω : Wo) (st : Store) (H : Hp) (v w : PV) (x y : V) (Q : VK), Wd X.K ω st H → Rep X.K ω v x → Rep X.K ω w y → After (gd X) E ω H (p v w st) (RV X.K) Q → r x y H Q
def UnS (X : Cx) (f : Value → Sem Value) (p : PV → Store → Res PV) : Prop :=
  ∃ r, UnR X f r ∧ ∀ (E : XK) (ω : Wo) (st : Store) (H : Hp) (v : PV) (x : V) (Q : VK), Wd X.K ω st H → Rep X.K ω v x → After (gd X) E ω H (p v st) (RV X.K) Q → r x H Q
def eBin (p : PV → PV → Store → Res PV) (fa fb : EM) : EM := fun env st => (fa env st).bind fun v st1 => (fb env st1).bind fun w st2 => p v w st2
def eUn (p : PV → Store → Res PV) (fa : EM) : EM := fun env st => (fa env st).bind fun v st1 => p v st1
/-- a value that is to be a bool -/
def pTruth (v : PV) (st : Store) : Res Bool := match v with
  | .bl b => .ok b st
  | _ => .stuck
def eTest (f : EM) : TM := fun env st => (f env st).bind pTruth
def eChain (p p' : PV → PV → Store → Res PV) (fa fb fc : EM) : EM := fun env st => (fa env st).bind fun v st1 => (fb env st1).bind fun w st2 => (p v w st2).bind fun z st3 =>
  match z with
  | .bl true => (fc env st3).bind fun u st4 => p' w u st4
  | .bl false => .ok (.bl false) st3
  | _ => .stuck
section
variable {X : Cx} {W : WX} {pos : Pos} {a b c : Expr} {fa fb fc : EM}
theorem bin_step {r : R2} {p : PV → PV → Store → Res PV} (hi : ∀ (E : XK) (ω : Wo) (st : Store) (H : Hp) (v w : PV) (x y : V) (Q : VK), Wd X.K ω st H → Rep X.K ω v x → Rep X.K ω w y → After (gd X) E ω H (p v w st) (RV X.K) Q → r x y H Q)
    {σ : L2.St} {H : Hp} {Q : VK} (h : tG X W (RV X.K) (eBin p fa fb) σ H Q) : tOp r (tG X W (RV X.K) fa) (tG X W (RV X.K) fb) σ H Q := by
  obtain ⟨ω, st, env, wd, re, h⟩ := h
  refine ⟨ω, st, env, wd, re, (After.bind (Rel := RV X.K) h).mono ?_⟩
  rintro x H1 ⟨ω1, st1, v, e1, wd1, r1, h1⟩
  refine ⟨ω1, st1, env, wd1, re.mono e1.le, (After.bind (Rel := RV X.K) h1).mono ?_⟩
  rintro y H2 ⟨ω2, st2, w, e2, wd2, r2, h2⟩
  exact hi _ ω2 st2 H2 v w x y Q wd2 (r1.mono e2.le) r2 h2
theorem test_step {f : EM} {σ : L2.St} {H : Hp} {Q : Bool → Hp → Prop} (h : tG X W RQ (eTest f) σ H Q) : tG X W (RV X.K) f σ H (fun x H1 => ∃ k, x = .bl k ∧ Q k H1) := by
  obtain ⟨ω, st, env, wd, re, h⟩ := h
  refine ⟨ω, st, env, wd, re, (After.bind (Rel := RV X.K) h).mono ?_⟩
  rintro x H1 ⟨ω1, st1, v, e1, wd1, r1, h1⟩
  unfold pTruth at h1
  split at h1
  · cases r1
    exact ⟨_, rfl, h1.ok_here wd1 rfl⟩
  · exact False.elim h1
theorem me_bin {op : Operator} {p} (ho : OpS X (binaryOp op) p) (ha : ME X W a fa) (hb : ME X W b fb) : ME X W (.BinOp a op b pos) (eBin p fa fb) := by
  obtain ⟨r, hr, hi⟩ := ho
  exact peI (pe_op hr ha hb) fun σ H Q h => bin_step hi h
theorem me_un {op : UnaryOp} {p} (ho : UnS X (unaryOp op) p) (ha : ME X W a fa) : ME X W (.UnaryOp op a pos) (eUn p fa) := by
  obtain ⟨r, hr, hi⟩ := ho
  refine peI (pe_un hr ha) ?_
  rintro σ H Q ⟨ω, st, env, wd, re, h⟩
  refine ⟨ω, st, env, wd, re, (After.bind (Rel := RV X.K) h).mono ?_⟩
  rintro x H1 ⟨ω1, st1, v, e1, wd1, r1, h1⟩
  exact hi _ ω1 st1 H1 v x Q wd1 r1 h1
theorem me_cmp {op : CmpOp} {p} (ho : OpS X (compareOp op) p) (ha : ME X W a fa) (hb : ME X W b fb) (hm : behindInMarks op b = false := by first | exact nomark _ | rfl) : ME X W (.Compare a [op] [b] pos) (eBin p fa fb) := by
  obtain ⟨r, hr, hi⟩ := ho
  exact peI (pe_cmpR hr ha hb hm) fun σ H Q h => bin_step hi h
theorem mt_cmp {op : CmpOp} {p} (ho : OpS X (compareOp op) p) (ha : ME X W a fa) (hb : ME X W b fb) (hm : behindInMarks op b = false := by first | exact nomark _ | rfl) : MT X W (.Compare a [op] [b] pos) (eTest (eBin p fa fb)) := by
  obtain ⟨r, hr, hi⟩ := ho
  exact ptI (pt_cmpR hr ha hb hm) fun σ H Q h => bin_step hi (test_step h)
theorem chain_step {r r' : R2} {p p' : PV → PV → Store → Res PV} (hi : ∀ (E : XK) (ω : Wo) (st : Store) (H : Hp) (v w : PV) (x y : V) (Q : VK), Wd X.K ω st H → Rep X.K ω v x → Rep X.K ω w y → After (gd X) E ω H (p v w st) (RV X.K) Q → r x y H Q)
    (hi' : ∀ (E : XK) (ω : Wo) (st : Store) (H : Hp) (v w : PV) (x y : V) (Q : VK), Wd X.K ω st H → Rep X.K ω v x → Rep X.K ω w y → After (gd X) E ω H (p' v w st) (RV X.K) Q → r' x y H Q)
    {σ : L2.St} {H : Hp} {Q : VK} (h : tG X W (RV X.K) (eChain p p' fa fb fc) σ H Q) : tChain r r' (tG X W (RV X.K) fa) (tG X W (RV X.K) fb) (tG X W (RV X.K) fc) σ H Q := by
  obtain ⟨ω, st, env, wd, re, h⟩ := h
  refine ⟨ω, st, env, wd, re, (After.bind (Rel := RV X.K) h).mono ?_⟩
  rintro x H1 ⟨ω1, st1, v, e1, wd1, r1, h1⟩
  refine ⟨ω1, st1, env, wd1, re.mono e1.le, (After.bind (Rel := RV X.K) h1).mono ?_⟩
  rintro y H2 ⟨ω2, st2, w, e2, wd2, r2, h2⟩
  refine hi _ ω2 st2 H2 v w x y _ wd2 (r1.mono e2.le) r2 ((After.bind (Rel := RV X.K) h2).mono ?_)
  rintro z H3 ⟨ω3, st3, u, e3, wd3, r3, h3⟩
  split at h3
  · cases r3
    refine ⟨true, rfl, iteT ?_⟩
    refine ⟨ω3, st3, env, wd3, re.mono (e1.le.trans (e2.le.trans e3.le)), (After.bind (Rel := RV X.K) h3).mono ?_⟩
    rintro q H4 ⟨ω4, st4, u4, e4, wd4, r4, h4⟩
    exact hi' _ ω4 st4 H4 _ _ _ _ Q wd4 (r2.mono (e3.le.trans e4.le)) r4 h4
  · cases r3
    exact ⟨false, rfl, iteF (h3.ok_here wd3 (.bl false))⟩
  · exact False.elim h3
theorem me_chain {op op' : CmpOp} {p p'} (ho : OpS X (compareOp op) p) (ho' : OpS X (compareOp op') p') (ha : ME X W a fa) (hb : ME X W b fb) (hc : ME X W c fc)
    (hm : lastMarks [op, op'] [b, c] = false := by with_unfolding_all rfl) : ME X W (.Compare a [op, op'] [b, c] pos) (eChain p p' fa fb fc) := by
  obtain ⟨r, hr, hi⟩ := ho
  obtain ⟨r', hr', hi'⟩ := ho'
  exact peI (pe_chain hr hr' ha hb hc hm) fun σ H Q h => chain_step hi hi' h
theorem mt_chain {op op' : CmpOp} {p p'} (ho : OpS X (compareOp op) p) (ho' : OpS X (compareOp op') p') (ha : ME X W a fa) (hb : ME X W b fb) (hc : ME X W c fc)
    (hm : lastMarks [op, op'] [b, c] = false := by with_unfolding_all rfl) : MT X W (.Compare a [op, op'] [b, c] pos) (eTest (eChain p p' fa fb fc)) := by
  obtain ⟨r, hr, hi⟩ := ho
  obtain ⟨r', hr', hi'⟩ := ho'
  exact ptI (pt_chain hr hr' ha hb hc hm) fun σ H Q h => chain_step hi hi' (test_step h)
/-- an expression as a test -/
theorem mt_val {e : Expr} {f : EM} (h : ME X W e f) (he : ∀ whole, isTrue e X.env whole = (do let v ← whole; standAt e.pos; holding [v] (truthy v)) := by intro _; rfl) : MT X W e (eTest f) :=
  ptI (pt_val h he) fun σ H Q h => test_step h
/-! ### and, or, not, if -/
def tAndM (f g : TM) : TM := fun env st => (f env st).bind fun b st1 => if b = true then g env st1 else .ok false st1
def tOrM (f g : TM) : TM := fun env st => (f env st).bind fun b st1 => if b = true then .ok true st1 else g env st1
def tNotM (f : TM) : TM := fun env st => (f env st).bind fun b st1 => .ok (!b) st1
variable {ta tb : TM} {rest : List Expr}
theorem mw_and1 (ha : MT X W a ta) : MW X W (.BoolOp .And [a] pos) ta := pw_and1 ha
theorem mw_or1 (ha : MT X W a ta) : MW X W (.BoolOp .Or [a] pos) ta := pw_or1 ha
theorem mw_and (ha : MT X W a ta) (hb : MW X W (.BoolOp .And (b :: rest) pos) tb) : MW X W (.BoolOp .And (a :: b :: rest) pos) (tAndM ta tb) := by
  refine pwI (pw_and ha hb) ?_
  rintro σ H Q ⟨ω, st, env, wd, re, h⟩
  refine ⟨ω, st, env, wd, re, (After.bind (Rel := RQ) h).mono ?_⟩
  rintro x H1 ⟨ω1, st1, v, e1, wd1, r1, h1⟩
  have r1 : v = x := r1
  subst r1
  cases v with
  | true => exact iteT ⟨ω1, st1, env, wd1, re.mono e1.le, by simpa using h1⟩
  | false => exact iteF ((show After (gd X) (wx W σ) ω1 H1 (.ok false st1) RQ Q by simpa using h1).ok_here wd1 rfl)
theorem mw_or (ha : MT X W a ta) (hb : MW X W (.BoolOp .Or (b :: rest) pos) tb) : MW X W (.BoolOp .Or (a :: b :: rest) pos) (tOrM ta tb) := by
  refine pwI (pw_or ha hb) ?_
  rintro σ H Q ⟨ω, st, env, wd, re, h⟩
  refine ⟨ω, st, env, wd, re, (After.bind (Rel := RQ) h).mono ?_⟩
  rintro x H1 ⟨ω1, st1, v, e1, wd1, r1, h1⟩
  have r1 : v = x := r1
  subst r1
  cases v with
  | true => exact iteT ((show After (gd X) (wx W σ) ω1 H1 (.ok true st1) RQ Q by simpa using h1).ok_here wd1 rfl)
  | false => exact iteF ⟨ω1, st1, env, wd1, re.mono e1.le, by simpa using h1⟩
theorem mt_not (ha : MT X W a ta) : MT X W (.UnaryOp .Not a pos) (tNotM ta) := by
  refine ptI (pt_not ha) ?_
  rintro σ H Q ⟨ω, st, env, wd, re, h⟩
  refine ⟨ω, st, env, wd, re, (After.bind (Rel := RQ) h).mono ?_⟩
  rintro x H1 ⟨ω1, st1, v, e1, wd1, r1, h1⟩
  have r1 : v = x := r1
  subst r1
  exact h1.ok_here wd1 rfl
def eAndV (f g : EM) : EM := fun env st => (f env st).bind fun v st1 => match v with
  | .bl true => g env st1
  | .bl false => .ok (.bl false) st1
  | _ => .stuck
def eOrV (f g : EM) : EM := fun env st => (f env st).bind fun v st1 => match v with
  | .bl true => .ok (.bl true) st1
  | .bl false => g env st1
  | _ => .stuck
def eNotV (f : EM) : EM := fun env st => (f env st).bind fun v st1 => match v with
  | .bl b => .ok (.bl (!b)) st1
  | _ => .stuck
theorem me_one {op} (h : ME X W a fa) : ME X W (.BoolOp op [a] pos) fa := pe_one h
theorem me_and (ha : ME X W a fa) (hb : ME X W (.BoolOp .And (b :: rest) pos) fb) : ME X W (.BoolOp .And (a :: b :: rest) pos) (eAndV fa fb) := by
  refine peI (pe_and ha hb) ?_
  rintro σ H Q ⟨ω, st, env, wd, re, h⟩
  refine ⟨ω, st, env, wd, re, (After.bind (Rel := RV X.K) h).mono ?_⟩
  rintro x H1 ⟨ω1, st1, v, e1, wd1, r1, h1⟩
  split at h1
  · cases r1
    exact ⟨true, rfl, iteT ⟨ω1, st1, env, wd1, re.mono e1.le, h1⟩⟩
  · cases r1
    exact ⟨false, rfl, iteF (h1.ok_here wd1 (.bl false))⟩
  · exact False.elim h1
theorem me_or (ha : ME X W a fa) (hb : ME X W (.BoolOp .Or (b :: rest) pos) fb) : ME X W (.BoolOp .Or (a :: b :: rest) pos) (eOrV fa fb) := by
  refine peI (pe_or ha hb) ?_
  rintro σ H Q ⟨ω, st, env, wd, re, h⟩
  refine ⟨ω, st, env, wd, re, (After.bind (Rel := RV X.K) h).mono ?_⟩
  rintro x H1 ⟨ω1, st1, v, e1, wd1, r1, h1⟩
  split at h1
  · cases r1
    exact ⟨true, rfl, iteT (h1.ok_here wd1 (.bl true))⟩
  · cases r1
    exact ⟨false, rfl, iteF ⟨ω1, st1, env, wd1, re.mono e1.le, h1⟩⟩
  · exact False.elim h1
theorem me_not (ha : ME X W a fa) : ME X W (.UnaryOp .Not a pos) (eNotV fa) := by
  refine peI (pe_not ha) ?_
  rintro σ H Q ⟨ω, st, env, wd, re, h⟩
  refine ⟨ω, st, env, wd, re, (After.bind (Rel := RV X.K) h).mono ?_⟩
  rintro x H1 ⟨ω1, st1, v, e1, wd1, r1, h1⟩
  split at h1
  · cases r1
    exact ⟨_, rfl, h1.ok_here wd1 (.bl _)⟩
  · exact False.elim h1
def eIf (c : TM) (f g : EM) : EM := fun env st => (c env st).bind fun b st1 => if b = true then f env st1 else g env st1
theorem me_if (hc : MT X W c ta) (ha : ME X W a fa) (hb : ME X W b fb) : ME X W (.IfExp c a b pos) (eIf ta fa fb) := by
  refine peI (pe_ifExp hc ha hb) ?_
  rintro σ H Q ⟨ω, st, env, wd, re, h⟩
  refine ⟨ω, st, env, wd, re, (After.bind (Rel := RQ) h).mono ?_⟩
  rintro x H1 ⟨ω1, st1, v, e1, wd1, r1, h1⟩
  have r1 : v = x := r1
  subst r1
  cases v with
  | true => exact iteT ⟨ω1, st1, env, wd1, re.mono e1.le, by simpa using h1⟩
  | false => exact iteF ⟨ω1, st1, env, wd1, re.mono e1.le, by simpa using h1⟩
end
/-! ### arguments, displays, calls -/
def aNil : AM := fun _ st => .ok [] st
def aCons (f : EM) (g : AM) : AM := fun env st => (f env st).bind fun v st1 => (g env st1).bind fun vs st2 => .ok (v :: vs) st2
section
variable {X : Cx} {W : WX} {pos : Pos} {e : Expr} {es : List Expr} {f : EM} {fs : AM}
theorem ma_nil : MA X W [] aNil := paI pa_nil fun σ H Q ⟨ω, st, env, wd, re, h⟩ => h.ok_here wd .nil
theorem ma_cons (ha : ME X W e f) (hr : MA X W es fs) (hs : starEach (e :: es) X.env = (false, eval e X.env) :: starEach es X.env := by rfl) : MA X W (e :: es) (aCons f fs) := by
  refine paI (pa_cons ha hr hs) ?_
  rintro σ H Q ⟨ω, st, env, wd, re, h⟩
  refine ⟨ω, st, env, wd, re, (After.bind (Rel := RV X.K) h).mono ?_⟩
  rintro x H1 ⟨ω1, st1, v, e1, wd1, r1, h1⟩
  refine ⟨ω1, st1, env, wd1, re.mono e1.le, (After.bind (Rel := RL X.K) h1).mono ?_⟩
  rintro xs H2 ⟨ω2, st2, vs, e2, wd2, r2, h2⟩
  exact h2.ok_here wd2 (.cons (r1.mono e2.le) r2)
/-- a new tuple, a new list that is not changed, a new place of the store -/
theorem new_tup {E : XK} {ω : Wo} {st : Store} {H : Hp} {xs : List V} {vs : List PV} {Q : VK} (wd : Wd X.K ω st H) (r : Reps X.K ω vs xs) (h : After (gd X) E ω H (.ok (.tup vs) st) (RV X.K) Q) (p : Addr) (n : H p = none) : Q (.ref p) (upd H p (.tup xs)) := by
  obtain ⟨w, e⟩ := wd.fz n (.tup xs)
  exact h _ _ _ e w (.tup upd_same (r.mono e.le))
theorem new_lst {E : XK} {ω : Wo} {st : Store} {H : Hp} {xs : List V} {vs : List PV} {Q : VK} (wd : Wd X.K ω st H) (r : Reps X.K ω vs xs) (h : After (gd X) E ω H (.ok (.lst vs) st) (RV X.K) Q) (p : Addr) (n : H p = none) : Q (.ref p) (upd H p (.lst xs)) := by
  obtain ⟨w, e⟩ := wd.fz n (.lst xs)
  exact h _ _ _ e w (.lst upd_same (r.mono e.le))
theorem new_loc {E : XK} {ω : Wo} {st : Store} {H : Hp} {xs : List V} {vs : List PV} {Q : VK} (wd : Wd X.K ω st H) (r : Reps X.K ω vs xs) (h : After (gd X) E ω H (.ok (.loc st.length) (st ++ [.lst vs])) (RV X.K) Q) (p : Addr) (n : H p = none) : Q (.ref p) (upd H p (.lst xs)) := by
  obtain ⟨w, e⟩ := wd.nw n r
  refine h _ _ _ e w (.loc ?_)
  rw [← wd.len]
  simp
def mkTup (vs : List PV) (st : Store) : Res PV := if vs.length ≤ sizeLine then .ok (.tup vs) st else .stuck
def mkLst (vs : List PV) (st : Store) : Res PV := if vs.length ≤ sizeLine then .ok (.lst vs) st else .stuck
def mkLoc (vs : List PV) (st : Store) : Res PV := if vs.length ≤ sizeLine then .ok (.loc st.length) (st ++ [.lst vs]) else .stuck
def eArgs (p : List PV → Store → Res PV) (fs : AM) : EM := fun env st => (fs env st).bind p
theorem args_step {p : List PV → Store → Res PV} {R : List V → Hp → VK → Prop} (hi : ∀ (E : XK) (ω : Wo) (st : Store) (H : Hp) (vs : List PV) (xs : List V) (Q : VK), Wd X.K ω st H → Reps X.K ω vs xs → After (gd X) E ω H (p vs st) (RV X.K) Q → R xs H Q)
    {σ : L2.St} {H : Hp} {Q : VK} (h : tG X W (RV X.K) (eArgs p fs) σ H Q) : tG X W (RL X.K) fs σ H (fun xs H1 => R xs H1 Q) := by
  obtain ⟨ω, st, env, wd, re, h⟩ := h
  refine ⟨ω, st, env, wd, re, (After.bind (Rel := RL X.K) h).mono ?_⟩
  rintro x H1 ⟨ω1, st1, v, e1, wd1, r1, h1⟩
  exact hi _ ω1 st1 H1 v x Q wd1 r1 h1
theorem me_tup {x1} (h : MA X W es fs) : ME X W (.Tuple es x1 pos) (eArgs mkTup fs) := by
  refine peI (pe_tup h) fun σ H Q q => args_step (R := fun xs H1 Q => xs.length ≤ sizeLine ∧ ∀ p, H1 p = none → Q (.ref p) (upd H1 p (.tup xs))) ?_ q
  intro E ω st H vs xs Q wd r h
  unfold mkTup at h
  split at h
  · exact ⟨by rw [← r.length]; assumption, new_tup wd r h⟩
  · exact False.elim h
theorem me_lst (h : MA X W es fs) : ME X W (.List es pos) (eArgs mkLst fs) := by
  refine peI (pe_lst h) fun σ H Q q => args_step (R := fun xs H1 Q => xs.length ≤ sizeLine ∧ ∀ p, H1 p = none → Q (.ref p) (upd H1 p (.lst xs))) ?_ q
  intro E ω st H vs xs Q wd r h
  unfold mkLst at h
  split at h
  · exact ⟨by rw [← r.length]; assumption, new_lst wd r h⟩
  · exact False.elim h
theorem me_loc (h : MA X W es fs) : ME X W (.List es pos) (eArgs mkLoc fs) := by
  refine peI (pe_lst h) fun σ H Q q => args_step (R := fun xs H1 Q => xs.length ≤ sizeLine ∧ ∀ p, H1 p = none → Q (.ref p) (upd H1 p (.lst xs))) ?_ q
  intro E ω st H vs xs Q wd r h
  unfold mkLoc at h
  split at h
  · exact ⟨by rw [← r.length]; assumption, new_loc wd r h⟩
  · exact False.elim h
/-! ### built-ins, called -/
def CallS (X : Cx) (f : Value) (p : List PV → Store → Res PV) : Prop :=
  ∃ r, CallR X f r ∧ ∀ (E : XK) (ω : Wo) (st : Store) (H : Hp) (vs : List PV) (xs : List V) (Q : VK), Wd X.K ω st H → Reps X.K ω vs xs → After (gd X) E ω H (p vs st) (RV X.K) Q → r xs H Q
variable {x : Str} {p : Pos} {id : String}
theorem me_callB {m} (hc : CallS X (.builtin id) m) (hg : Gl X x) (hm : X.mg x = none) (hv : bootBuiltins x = some (.builtin id)) (ha : MA X W (e :: es) fs) (hn : x ≠ "__name__" := by decide) (hdb : (x == ("__debug__" : Str)) = false := by decide)
    (he : starEach (e :: es) X.env = (false, eval e X.env) :: starEach es X.env := by rfl) (hpl : (backTo pos (starEach es X.env)).any (·.1) = false := by rfl) : ME X W (.Call (.Name x p) (e :: es) [] pos) (eArgs m fs) := by
  obtain ⟨r, hr, hi⟩ := hc
  exact peI (pe_callB hr hg hm hv ha hn hdb he hpl) fun σ H Q q => args_step hi q
theorem me_callTy {m} (hc : CallS X (.type id) m) (hg : Gl X x) (hm : X.mg x = none) (hv : bootBuiltins x = some (.type id)) (ha : MA X W (e :: es) fs) (hn : x ≠ "__name__" := by decide) (hdb : (x == ("__debug__" : Str)) = false := by decide)
    (he : starEach (e :: es) X.env = (false, eval e X.env) :: starEach es X.env := by rfl) (hpl : (backTo pos (starEach es X.env)).any (·.1) = false := by rfl) : ME X W (.Call (.Name x p) (e :: es) [] pos) (eArgs m fs) := by
  obtain ⟨r, hr, hi⟩ := hc
  exact peI (pe_callTy hr hg hm hv ha hn hdb he hpl) fun σ H Q q => args_step hi q
theorem me_callG {m} (hc : CallS X (.builtin id) m) (hg : Gl X x) (hm : X.mg x = some (.builtin id)) (ha : MA X W (e :: es) fs) (hdb : (x == ("__debug__" : Str)) = false := by decide)
    (he : starEach (e :: es) X.env = (false, eval e X.env) :: starEach es X.env := by rfl) (hpl : (backTo pos (starEach es X.env)).any (·.1) = false := by rfl) : ME X W (.Call (.Name x p) (e :: es) [] pos) (eArgs m fs) := by
  obtain ⟨r, hr, hi⟩ := hc
  exact peI (pe_callBfun hr hg hm ha hdb he hpl) fun σ H Q q => args_step hi q
/-! ### a def of one's own, called -/
def guardN (n : Nat) (m : List PV → Store → Res PV) : List PV → Store → Res PV := fun vs st => if vs.length = n then m vs st else .stuck
/-- a def's promise by its plain function -/
def spP (G : Gd) (n : Nat) (m : List PV → Store → Res PV) : Sp := fun vs H Q E => ∃ ω st args, Wd G.K ω st H ∧ Reps G.K ω args vs ∧ After G E ω H (guardN n m args st) (RV G.K) Q
theorem spP_len {G : Gd} {n : Nat} {m} {vs : List V} {H : Hp} {Q : VK} {E : XK} (h : spP G n m vs H Q E) : vs.length = n := by
  obtain ⟨ω, st, args, wd, r, h⟩ := h
  unfold guardN at h
  split at h
  · rw [← r.length]; assumption
  · exact False.elim h
/-- what lets no exception out -/
def noErr {α : Type} : Res α → Res α
  | .err _ _ _ => .stuck
  | r => r
theorem After.noErr {α β : Type} {G : Gd} {E E' : XK} {ω : Wo} {H : Hp} {r : Res α} {Rel : Wo → α → β → Prop} {Q : β → Hp → Prop} (h : After G E ω H (noErr r) Rel Q) : After G E' ω H r Rel Q := by
  cases r with
  | ok a st => exact h
  | err n f st => exact False.elim h
  | stuck => exact False.elim h
abbrev nE (m : List PV → Store → Res PV) : List PV → Store → Res PV := fun vs st => noErr (m vs st)
def eCall (n : Nat) (m : List PV → Store → Res PV) (fs : AM) : EM := eArgs (guardN n (nE m)) fs
theorem guard_noErr {E E' : XK} {G : Gd} {ω : Wo} {H : Hp} {n : Nat} {m : List PV → Store → Res PV} {vs : List PV} {st : Store} {Q : VK} (h : After G E ω H (guardN n (nE m) vs st) (RV G.K) Q) : After G E' ω H (guardN n (nE m) vs st) (RV G.K) Q := by
  unfold guardN at h ⊢
  split
  · rename_i e
    rw [if_pos e] at h
    show After G E' ω H (noErr (m vs st)) (RV G.K) Q
    have h : After G E ω H (noErr (m vs st)) (RV G.K) Q := h
    cases q : m vs st with
    | ok a st' => rw [q] at h; exact h
    | err n f st' => rw [q] at h; exact False.elim h
    | stuck => rw [q] at h; exact False.elim h
  · rename_i e
    rw [if_neg e] at h
    exact False.elim h
variable {k n : Nat} {fa : Addr} {fd : FuncData} {ps : List Str}
theorem me_call {m} (F : FnOk X.prog X.w X.K X.mg X.base CX0 k fa fd ps (spP (gd X) n (nE m))) (hr : Room k X.A) (hg : Gl X x) (hm : X.mg x = some (.ref fa)) (hk : PySem.W.keepIn X.K (.ref fa) = true) (hb : Binds X.K fd ps [])
    (ha : MA X W (e :: es) fs) (hdb : (x == ("__debug__" : Str)) = false := by decide) (he : starEach (e :: es) X.env = (false, eval e X.env) :: starEach es X.env := by rfl) (hpl : (backTo pos (starEach es X.env)).any (·.1) = false := by rfl) :
    ME X W (.Call (.Name x p) (e :: es) [] pos) (eCall n m fs) := by
  refine peI (pe_call F hr hg hm hk hb .nil pass0 ha hdb he hpl) fun σ H Q q => args_step (R := fun xs H1 Q => spP (gd X) n (nE m) (xs ++ []) H1 Q E0) ?_ q
  intro E ω st H vs xs Q wd r h
  rw [List.append_nil]
  exact ⟨ω, st, vs, wd, r, guard_noErr h⟩
/-! ### a built-in's method -/
def MtS (X : Cx) (T id : String) (ty : PV → Store → Bool) (p : PV → List PV → Store → Res PV) : Prop :=
  ∃ r, MtR X id r ∧ (∀ (ω : Wo) (st : Store) (H : Hp) (v : PV) (x : V), Wd X.K ω st H → Rep X.K ω v x → ty v st = true → tyV X.K T x H) ∧
    ∀ (E : XK) (ω : Wo) (st : Store) (H : Hp) (v : PV) (x : V) (vs : List PV) (xs : List V) (Q : VK), Wd X.K ω st H → Rep X.K ω v x → Reps X.K ω vs xs → After (gd X) E ω H (p v vs st) (RV X.K) Q → r x xs H Q
def eMeth (ty : PV → Store → Bool) (p : PV → List PV → Store → Res PV) (fo : EM) (fs : AM) : EM := fun env st => (fo env st).bind fun v st1 => if ty v st1 = true then (fs env st1).bind fun vs st2 => p v vs st2 else .stuck
variable {o : Expr} {fo : EM} {name : Str} {apos cpos : Pos} {T : String}
theorem me_bm {ty m} (hM : MtS X T id ty m) (pa : PlainAttrs T) (slot : Slot T name id) (hty : typeOf (.builtin id) = pure (.type "method_descriptor")) (ho : ME X W o fo) (ha : MA X W (e :: es) fs)
    (hbase : attributeBase o name X.env (eval o X.env) = eval o X.env := by rfl)
    (hfew : ((backTo cpos (starEach (e :: es) X.env)).all (fun x => !x.1) && (backToKw cpos (keywordEach [] X.env)).all (fun x => x.1.isSome)
      && decide ((e :: es).length + ([] : List Keyword).length + (if ([] : List Keyword).isEmpty then 0 else 1) < 30)) = true := by rfl)
    (hline : (apos.endLine == cpos.line) = true := by rfl) (hs : starEach (e :: es) X.env = (false, eval e X.env) :: starEach es X.env := by rfl) (hplain : (backTo cpos (starEach es X.env)).any (·.1) = false := by rfl) :
    ME X W (.Call (.Attribute o name apos) (e :: es) [] cpos) (eMeth ty m fo fs) := by
  obtain ⟨r, hr, hT, hi⟩ := hM
  refine peI (pe_bm pa slot hty hr ho ha hbase hfew hline hs hplain) ?_
  rintro σ H Q ⟨ω, st, env, wd, re, h⟩
  refine ⟨ω, st, env, wd, re, (After.bind (Rel := RV X.K) h).mono ?_⟩
  rintro x H1 ⟨ω1, st1, v, e1, wd1, r1, h1⟩
  split at h1
  · rename_i hty
    refine ⟨hT _ _ _ _ _ wd1 r1 hty, ω1, st1, env, wd1, re.mono e1.le, (After.bind (Rel := RL X.K) h1).mono ?_⟩
    rintro xs H2 ⟨ω2, st2, vs, e2, wd2, r2, h2⟩
    exact hi _ ω2 st2 H2 v x vs xs Q wd2 (r1.mono e2.le) r2 h2
  · exact False.elim h1
theorem me_bm0 {ty m} (hM : MtS X T id ty m) (pa : PlainAttrs T) (slot : Slot T name id) (hty : typeOf (.builtin id) = pure (.type "method_descriptor")) (ho : ME X W o fo)
    (hbase : attributeBase o name X.env (eval o X.env) = eval o X.env := by rfl) (hline : (apos.endLine == cpos.line) = true := by rfl) :
    ME X W (.Call (.Attribute o name apos) [] [] cpos) (eMeth ty m fo aNil) := by
  obtain ⟨r, hr, hT, hi⟩ := hM
  refine peI (pe_bm0 pa slot hty hr ho hbase hline) ?_
  rintro σ H Q ⟨ω, st, env, wd, re, h⟩
  refine ⟨ω, st, env, wd, re, (After.bind (Rel := RV X.K) h).mono ?_⟩
  rintro x H1 ⟨ω1, st1, v, e1, wd1, r1, h1⟩
  split at h1
  · rename_i hty
    exact ⟨hT _ _ _ _ _ wd1 r1 hty, hi _ ω1 st1 H1 v x [] [] Q wd1 r1 .nil h1⟩
  · exact False.elim h1
/-! ### an item, a slice -/
def IxS (X : Cx) (p : PV → PV → Store → Res PV) : Prop :=
  ∃ r, IxR X r ∧ ∀ (E : XK) (ω : Wo) (st : Store) (H : Hp) (v w : PV) (x y : V) (Q : VK), Wd X.K ω st H → Rep X.K ω v x → Rep X.K ω w y → After (gd X) E ω H (p v w st) (RV X.K) Q → r x y H Q
variable {a b : Expr} {f1 f2 : EM}
theorem me_ix {p} (hI : IxS X p) (ha : ME X W a f1) (hb : ME X W b f2) (hs : PlainIx b := by exact fun _ _ => rfl) : ME X W (.Subscript a b pos) (eBin p f1 f2) := by
  obtain ⟨r, hr, hi⟩ := hI
  exact peI (pe_ix hr ha hb hs) fun σ H Q h => bin_step hi h
def oNone : OM := fun _ st => .ok none st
def oSome (f : EM) : OM := fun env st => (f env st).bind fun v st1 => match v with
  | .int i => .ok (some i) st1
  | _ => .stuck
theorem mo_none : MO X W none oNone := poI po_none fun σ H Q ⟨ω, st, env, wd, re, h⟩ => h.ok_here wd rfl
theorem mo_some (h : ME X W e f) : MO X W (some e) (oSome f) := by
  refine poI (po_some h) ?_
  rintro σ H Q ⟨ω, st, env, wd, re, h⟩
  refine ⟨ω, st, env, wd, re, (After.bind (Rel := RV X.K) h).mono ?_⟩
  rintro x H1 ⟨ω1, st1, v, e1, wd1, r1, h1⟩
  split at h1
  · cases r1
    exact ⟨_, rfl, h1.ok_here wd1 rfl⟩
  · exact False.elim h1
def SlS (X : Cx) (p : PV → Option Int → Option Int → Store → Res PV) : Prop :=
  ∃ r, SlR X r ∧ ∀ (E : XK) (ω : Wo) (st : Store) (H : Hp) (v : PV) (x : V) (lo hi : Option Int) (Q : VK), Wd X.K ω st H → Rep X.K ω v x → After (gd X) E ω H (p v lo hi st) (RV X.K) Q → r x lo hi H Q
def eSl (p : PV → Option Int → Option Int → Store → Res PV) (f : EM) (l u : OM) : EM := fun env st => (f env st).bind fun v st1 => (l env st1).bind fun lo st2 => (u env st2).bind fun hi st3 => p v lo hi st3
theorem me_sl {p} {lo hi : Option Expr} {l u : OM} {p2 : Pos} (hS : SlS X p) (ha : ME X W a f1) (hl : MO X W lo l) (hu : MO X W hi u) : ME X W (.Subscript a (.Slice lo hi none p2) pos) (eSl p f1 l u) := by
  obtain ⟨r, hr, hi'⟩ := hS
  refine peI (pe_slice hr ha hl hu) ?_
  rintro σ H Q ⟨ω, st, env, wd, re, h⟩
  refine ⟨ω, st, env, wd, re, (After.bind (Rel := RV X.K) h).mono ?_⟩
  rintro x H1 ⟨ω1, st1, v, e1, wd1, r1, h1⟩
  refine ⟨ω1, st1, env, wd1, re.mono e1.le, (After.bind (Rel := RQ) h1).mono ?_⟩
  rintro y H2 ⟨ω2, st2, w, e2, wd2, r2, h2⟩
  have r2 : w = y := r2
  subst r2
  refine ⟨ω2, st2, env, wd2, re.mono (e1.le.trans e2.le), (After.bind (Rel := RQ) h2).mono ?_⟩
  rintro z H3 ⟨ω3, st3, u, e3, wd3, r3, h3⟩
  have r3 : u = z := r3
  subst r3
  exact hi' _ ω3 st3 H3 v x w u Q wd3 (r1.mono (e2.le.trans e3.le)) h3
end
end PL
/-! PL, part c: statements, loops, comprehensions, defs. -/
namespace PL
open PySem PySem.Spec PyProof.Rows L2
inductive SR where
  | nx (env : PEnv) (st : Store)
  | rt (v : PV) (st : Store)
  | bk (env : PEnv) (st : Store)
  | ct (env : PEnv) (st : Store)
  | err (env : PEnv) (n : Str) (fs : Option (List (Str × PV))) (st : Store)
  | stuck
abbrev SM := PEnv → Store → SR
def AfterS (X : Cx) (W : WX) (ω : Wo) (H : Hp) (r : SR) (D : Ends) : Prop :=
  match r with
  | .nx env st => ∀ ω' H' σ', Ext ω H ω' H' → Wd X.K ω' st H' → REnv X.K ω' env σ' → D.nx σ' H'
  | .rt v st => ∀ ω' H' x, Ext ω H ω' H' → Wd X.K ω' st H' → Rep X.K ω' v x → D.rt x H'
  | .bk env st => ∀ ω' H' σ', Ext ω H ω' H' → Wd X.K ω' st H' → REnv X.K ω' env σ' → D.bk σ' H'
  | .ct env st => ∀ ω' H' σ', Ext ω H ω' H' → Wd X.K ω' st H' → REnv X.K ω' env σ' → D.ct σ' H'
  | .err env n fs st => ∀ ω' H' σ' d cls, Ext ω H ω' H' → Wd X.K ω' st H' → REnv X.K ω' env σ' → X.mg n = some cls → XRep X.K ω' H H' fs d → W cls d σ' H'
  | .stuck => False
def tS (X : Cx) (W : WX) (f : SM) : TS := fun D σ H => ∃ ω st env, Wd X.K ω st H ∧ REnv X.K ω env σ ∧ AfterS X W ω H (f env st) D
abbrev MS (X : Cx) (W : WX) (s : Stmt) (f : SM) : Prop := PS X s (tS X W f)
abbrev MB (X : Cx) (W : WX) (s : List Stmt) (f : SM) : Prop := PSs X s (tS X W f)
def sOf {α : Type} (r : Res α) (env : PEnv) (k : α → Store → SR) : SR :=
  match r with
  | .ok a st => k a st
  | .err n fs st => .err env n fs st
  | .stuck => .stuck
section
variable {X : Cx} {W : WX} {ω ω1 : Wo} {H H1 : Hp} {D : Ends}
theorem AfterS.shift {r : SR} (h : AfterS X W ω H r D) (x : Ext ω H ω1 H1) : AfterS X W ω1 H1 r D := by
  cases r with
  | nx env st => exact fun ω' H' σ' e w r => h ω' H' σ' (x.trans e) w r
  | rt v st => exact fun ω' H' y e w r => h ω' H' y (x.trans e) w r
  | bk env st => exact fun ω' H' σ' e w r => h ω' H' σ' (x.trans e) w r
  | ct env st => exact fun ω' H' σ' e w r => h ω' H' σ' (x.trans e) w r
  | err env n fs st => exact fun ω' H' σ' d cls e w r m y => h ω' H' σ' d cls (x.trans e) w r m (y.shift x)
  | stuck => exact h
theorem AfterS.nx_here {env : PEnv} {st : Store} {σ : L2.St} (h : AfterS X W ω H (.nx env st) D) (w : Wd X.K ω st H) (r : REnv X.K ω env σ) : D.nx σ H := h ω H σ (.refl ω H) w r
theorem AfterS.bind {α β : Type} {r : Res α} {env : PEnv} {σ : L2.St} {k : α → Store → SR} {Rel : Wo → α → β → Prop} (h : AfterS X W ω H (sOf r env k) D) (re : REnv X.K ω env σ) :
    After (gd X) (wx W σ) ω H r Rel fun x H1 => ∃ ω1 st1 a, Ext ω H ω1 H1 ∧ Wd X.K ω1 st1 H1 ∧ Rel ω1 a x ∧ AfterS X W ω1 H1 (k a st1) D := by
  cases r with
  | ok a st' => exact fun ω' H' y e w q => ⟨ω', st', a, e, w, q, AfterS.shift h e⟩
  | err n fs st' => exact fun ω' H' d cls e w m y => h ω' H' σ d cls e w (re.mono e.le) m y
  | stuck => exact h
end
/-! ### blocks, small statements -/
def sNil : SM := fun env st => .nx env st
def sSeq (f g : SM) : SM := fun env st => match f env st with
  | .nx env' st' => g env' st'
  | r => r
def sSet (i : Nat) (f : EM) : SM := fun env st => sOf (f env st) env fun v st1 => .nx (env.set i (some v)) st1
def sExpr (f : EM) : SM := fun env st => sOf (f env st) env fun _ st1 => .nx env st1
def sRet (f : EM) : SM := fun env st => sOf (f env st) env fun v st1 => .rt v st1
def sRetN : SM := fun _ st => .rt .non st
def sIf (c : TM) (f g : SM) : SM := fun env st => sOf (c env st) env fun b st1 => if b = true then f env st1 else g env st1
def sBk : SM := fun env st => .bk env st
def sCt : SM := fun env st => .ct env st
section
variable {X : Cx} {W : WX} {s : Stmt} {ss : List Stmt} {f g : SM} {e : Expr} {fe : EM} {pos : Pos}
theorem mb_nil : MB X W [] sNil := pssI pss_nil fun D σ H ⟨ω, st, env, wd, re, h⟩ => h.nx_here wd re
theorem mb_cons (h1 : MS X W s f) (h2 : MB X W ss g) : MB X W (s :: ss) (sSeq f g) := by
  refine pssI (pss_cons h1 h2) ?_
  rintro D σ H ⟨ω, st, env, wd, re, h⟩
  refine ⟨ω, st, env, wd, re, ?_⟩
  unfold sSeq at h
  split at h
  · rename_i env' st' q
    rw [q]
    exact fun ω' H' σ' x w r => ⟨ω', st', env', w, r, h.shift x⟩
  · rename_i q
    cases r : f env st with
    | nx env' st' => exact (q env' st' r).elim
    | rt v st => rw [r] at h; exact h
    | bk env st => rw [r] at h; exact h
    | ct env st => rw [r] at h; exact h
    | err env n fs st => rw [r] at h; exact h
    | stuck => rw [r] at h; exact h
theorem mb_one (h1 : MS X W s f) : MB X W [s] f := pss_one h1
theorem ms_set {i : Nat} {x : Str} {pos' : Pos} (hN : X.N.Nodup) (he : ME X W e fe) (hi : X.N[i]? = some x := by rfl) (hx : Loc X.env.scope x := by first | exact Or.inl rfl | exact Or.inr rfl) (hs : swapsWith e (some (.Name x pos')) pos.line X.env = pure false := by rfl)
    (hf : X.fn x = true ∨ X.env.scope.names.lookup x = some .local := by first | exact .inl rfl | exact .inr rfl | assumption) : MS X W (.Assign [.Name x pos'] e pos) (sSet i fe) := by
  refine psI (ps_set hN hi hx he hs hf) ?_
  rintro D σ H ⟨ω, st, env, wd, re, h⟩
  refine ⟨ω, st, env, wd, re, (h.bind (Rel := RV X.K) re).mono ?_⟩
  rintro y H1 ⟨ω1, st1, v, e1, wd1, r1, h1⟩
  exact h1.nx_here wd1 ((re.mono e1.le).set r1 i)
theorem ms_expr (he : ME X W e fe) (hs : swapsWith e none pos.line X.env = pure false := by rfl) : MS X W (.Expr e pos) (sExpr fe) := by
  refine psI (ps_expr he hs) ?_
  rintro D σ H ⟨ω, st, env, wd, re, h⟩
  refine ⟨ω, st, env, wd, re, (h.bind (Rel := RV X.K) re).mono ?_⟩
  rintro y H1 ⟨ω1, st1, v, e1, wd1, r1, h1⟩
  exact h1.nx_here wd1 (re.mono e1.le)
theorem ms_ret (he : ME X W e fe) : MS X W (.Return (some e) pos) (sRet fe) := by
  refine psI (ps_ret he) ?_
  rintro D σ H ⟨ω, st, env, wd, re, h⟩
  refine ⟨ω, st, env, wd, re, (h.bind (Rel := RV X.K) re).mono ?_⟩
  rintro y H1 ⟨ω1, st1, v, e1, wd1, r1, h1⟩
  exact h1 ω1 H1 y (.refl _ _) wd1 r1
theorem ms_retN : MS X W (.Return none pos) sRetN := psI ps_retN fun D σ H ⟨ω, st, env, wd, re, h⟩ => h ω H .non (.refl _ _) wd .non
theorem ms_if {c : Expr} {a b : List Stmt} {fc : TM} (hc : MT X W c fc) (ha : MB X W a f) (hb : MB X W b g) : MS X W (.If c a b pos) (sIf fc f g) := by
  refine psI (ps_if hc ha hb) ?_
  rintro D σ H ⟨ω, st, env, wd, re, h⟩
  refine ⟨ω, st, env, wd, re, (h.bind (Rel := RQ) re).mono ?_⟩
  rintro y H1 ⟨ω1, st1, v, e1, wd1, r1, h1⟩
  have r1 : v = y := r1
  subst r1
  cases v with
  | true => exact iteT ⟨ω1, st1, env, wd1, re.mono e1.le, by simpa using h1⟩
  | false => exact iteF ⟨ω1, st1, env, wd1, re.mono e1.le, by simpa using h1⟩
theorem ms_break : MS X W (.Break pos) sBk := psI ps_break fun D σ H ⟨ω, st, env, wd, re, h⟩ => h ω H σ (.refl _ _) wd re
theorem ms_continue : MS X W (.Continue pos) sCt := psI ps_continue fun D σ H ⟨ω, st, env, wd, re, h⟩ => h ω H σ (.refl _ _) wd re
theorem ms_pass : MS X W (.Pass pos) sNil := psI ps_pass fun D σ H ⟨ω, st, env, wd, re, h⟩ => h.nx_here wd re
end
/-! ### targets -/
inductive Tg where
  | one (i : Nat)
  | tup (is : List Nat)
def Tg.slots : Tg → List Nat
  | .one i => [i]
  | .tup is => is
def setTgs : List Nat → List PV → PEnv → Option PEnv
  | [], [], env => some env
  | i :: is, v :: vs, env => setTgs is vs (env.set i (some v))
  | _, _, _ => none
def setTg : Tg → PV → PEnv → Option PEnv
  | .one i, v, env => some (env.set i (some v))
  | .tup is, .tup vs, env => setTgs is vs env
  | _, _, _ => none
def gTs : List Nat → TGs
  | [] => gNil
  | i :: is => gCons (gName i) (gTs is)
def gT (K : PySem.W.Frag) : Tg → TG
  | .one i => gName i
  | .tup is => gTup K is.length (gTs is)
/-- σ' is σ but for some slots -/
def But (vs : List Nat) (σ σ' : L2.St) : Prop := σ'.length = σ.length ∧ ∀ j, j ∉ vs → σ'[j]? = σ[j]?
theorem But.refl (vs : List Nat) (σ : L2.St) : But vs σ σ := ⟨rfl, fun _ _ => rfl⟩
theorem But.set {vs : List Nat} {σ σ' : L2.St} {i : Nat} (h : But vs (σ.set i x) σ') (m : i ∈ vs) : But vs σ σ' :=
  ⟨h.1.trans (by simp), fun j n => (h.2 j n).trans (List.getElem?_set_ne (fun e => n (by rw [← e]; exact m)))⟩
theorem wipe_in {σ : L2.St} {j : Nat} : ∀ {vs : List Nat}, j ∈ vs → (L2.wipe σ vs)[j]? = if j < σ.length then some none else none
  | [], m => by cases m
  | v :: vs, m => by
    unfold L2.wipe
    by_cases h : v = j
    · subst h
      by_cases hl : v < σ.length
      · rw [if_pos hl, List.getElem?_set_self (by rw [wipe_length]; exact hl)]
      · rw [if_neg hl, List.getElem?_eq_none (by rw [List.length_set, wipe_length]; omega)]
    · rw [List.getElem?_set_ne h]
      rcases List.mem_cons.mp m with e | m
      · exact absurd e.symm h
      · exact wipe_in m
theorem wipe_but {vs : List Nat} {σ σ' : L2.St} (h : But vs σ σ') : L2.wipe σ' vs = L2.wipe σ vs := by
  refine List.ext_getElem? fun j => ?_
  by_cases m : j ∈ vs
  · rw [wipe_in m, wipe_in m, h.1]
  · rw [wipe_out m, wipe_out m, h.2 j m]
section
variable {K : PySem.W.Frag} {ω : Wo} {st : Store} {H : Hp} {env env1 : PEnv} {σ : L2.St}
theorem gTs_step : ∀ {is : List Nat} {vs : List PV} {xs : List V} {env : PEnv} {σ : L2.St} {Q : L2.St → Hp → Prop}, REnv K ω env σ → Reps K ω vs xs → setTgs is vs env = some env1 → (∀ σ1, REnv K ω env1 σ1 → But is σ σ1 → Q σ1 H) → gTs is xs σ H Q
  | [], [], _, env, σ, Q, re, .nil, e, k => by
    cases e
    exact ⟨rfl, k σ re (.refl _ _)⟩
  | i :: is, v :: vs, _, env, σ, Q, re, .cons r t, e, k => by
    refine ⟨_, _, rfl, ?_⟩
    show gTs is _ _ _ _
    refine gTs_step (re.set r i) t e fun σ1 r1 b => k σ1 r1 ?_
    exact ⟨b.1.trans (by simp), fun j n => (b.2 j (fun m => n (List.mem_cons_of_mem _ m))).trans (List.getElem?_set_ne (fun e => n (by rw [e]; exact List.mem_cons_self)))⟩
theorem gT_step {tg : Tg} {v : PV} {x : V} {Q : L2.St → Hp → Prop} (wd : Wd K ω st H) (re : REnv K ω env σ) (r : Rep K ω v x) (e : setTg tg v env = some env1) (k : ∀ σ1, REnv K ω env1 σ1 → But tg.slots σ σ1 → Q σ1 H) : gT K tg x σ H Q := by
  cases tg with
  | one i =>
    cases e
    exact k _ (re.set r i) ⟨by simp, fun j n => List.getElem?_set_ne (fun e => n (by rw [e]; exact List.mem_cons_self))⟩
  | tup is =>
    cases v with
    | tup vs =>
      have e : setTgs is vs env = some env1 := e
      cases r with
      | @tup a ws _ ea rs =>
        have hlen : ∀ {is : List Nat} {vs : List PV} {env : PEnv}, setTgs is vs env = some env1 → vs.length = is.length := by
          intro is
          induction is with
          | nil => intro vs env e; cases vs with
            | nil => rfl
            | cons _ _ => cases e
          | cons i is ih => intro vs env e; cases vs with
            | nil => cases e
            | cons v vs => simp [ih (show setTgs is vs _ = some env1 from e)]
        exact ⟨a, ws, rfl, .of (wd.sub _ _ ea), by rw [← rs.length]; exact hlen e, gTs_step re rs e k⟩
    | _ => cases e
end
abbrev MG (X : Cx) (t : Expr) (tg : Tg) : Prop := PG X t (gT X.K tg)
abbrev MGs (X : Cx) (ts : List Expr) (is : List Nat) : Prop := PGs X ts (gTs is)
section
variable {X : Cx} {pos : Pos}
theorem mg_one {i : Nat} {x : Str} (hN : X.N.Nodup) (hi : X.N[i]? = some x := by rfl) (hx : Loc X.env.scope x := by first | exact Or.inl rfl | exact Or.inr rfl)
    (hf : X.fn x = true ∨ X.env.scope.names.lookup x = some .local := by first | exact .inl rfl | exact .inr rfl | assumption) : MG X (.Name x pos) (.one i) := pg_name hN hi hx hf
theorem mgs_nil : MGs X [] [] := pgs_nil
theorem mgs_cons {i : Nat} {x : Str} {es : List Expr} {is : List Nat} (hN : X.N.Nodup) (h2 : MGs X es is) (hi : X.N[i]? = some x := by rfl) (hx : Loc X.env.scope x := by first | exact Or.inl rfl | exact Or.inr rfl)
    (hf : X.fn x = true ∨ X.env.scope.names.lookup x = some .local := by first | exact .inl rfl | exact .inr rfl | assumption) (hs : (assignEach (.Name x pos :: es) X.env).map (·.2) = assign (.Name x pos) X.env :: (assignEach es X.env).map (·.2) := by rfl) :
    MGs X (.Name x pos :: es) (i :: is) := pgs_cons (pg_name hN hi hx hf) h2 hs
theorem mg_tup {es : List Expr} {k : Nat} {is : List Nat} (hc : X.calm = true) (h : MGs X es is)
    (hn : (assignEach es X.env).length = is.length := by rfl) (hst : (assignEach es X.env).findIdx? (·.1) = none := by rfl) : MG X (.Tuple es k pos) (.tup is) := pg_tup hc h hn hst
end
/-- target = value, the target a name or a tuple of names -/
def sTg (tg : Tg) (f : EM) : SM := fun env st => sOf (f env st) env fun v st1 => match setTg tg v env with
  | some env1 => .nx env1 st1
  | none => .stuck
/-- a, b = e1, e2 -/
def sPar (i j : Nat) (fs : AM) : SM := fun env st => sOf (fs env st) env fun vs st1 => match vs with
  | [v, w] => .nx ((env.set i (some v)).set j (some w)) st1
  | _ => .stuck
/-- o[i] = e, by values -/
def StS (X : Cx) (p : PV → PV → PV → Store → Res Unit) : Prop :=
  ∃ t, PSet X t ∧ ∀ (E : XK) (ω : Wo) (st : Store) (H : Hp) (o i v : PV) (xo xi x : V) (Q : Hp → Prop), Wd X.K ω st H → Rep X.K ω o xo → Rep X.K ω i xi → Rep X.K ω v x → After (gd X) E ω H (p o i v st) (fun _ _ (_ : Unit) => True) (fun _ H' => Q H') → t xo xi x H Q
def sSub (p : PV → PV → PV → Store → Res Unit) (fo fi fv : EM) : SM := fun env st => sOf (fv env st) env fun v st1 => sOf (fo env st1) env fun o st2 => sOf (fi env st2) env fun i st3 => sOf (p o i v st3) env fun _ st4 => .nx env st4
section
variable {X : Cx} {W : WX} {e : Expr} {fe fo fi : EM} {pos : Pos}
theorem ms_tg {t : Expr} {tg : Tg} (hg : MG X t tg) (he : ME X W e fe) (hs : swapsWithSole [t] e pos.line X.env = pure false := by rfl) (hw : swappedStores [t] e X.env = pure none := by rfl)
    (h1 : (assignEach [t] X.env).map (·.2) = [assign t X.env] := by rfl) : MS X W (.Assign [t] e pos) (sTg tg fe) := by
  refine psI (ps_asg he hg hs hw h1) ?_
  rintro D σ H ⟨ω, st, env, wd, re, h⟩
  refine ⟨ω, st, env, wd, re, (h.bind (Rel := RV X.K) re).mono ?_⟩
  rintro y H1 ⟨ω1, st1, v, e1, wd1, r1, h1⟩
  split at h1
  · rename_i env1 q
    exact gT_step wd1 (re.mono e1.le) r1 q fun σ1 r _ => h1.nx_here wd1 r
  · exact False.elim h1
theorem ms_par {i j : Nat} {x y : Str} {a b : Expr} {fs : AM} {px py pt : Pos} {kt k2 pt2} (hc : X.calm = true) (hN : X.N.Nodup) (hij : i ≠ j) (ha : MA X W [a, b] fs)
    (hi : X.N[i]? = some x := by rfl) (hj : X.N[j]? = some y := by rfl)
    (hx : X.env.scope.names.lookup x = some .local := by rfl) (hy : X.env.scope.names.lookup y = some .local := by rfl)
    (hw : swappedStores [.Tuple [.Name x px, .Name y py] kt pt] (.Tuple [a, b] k2 pt2) X.env = pure (some [x, y]) := by rfl)
    (hs : swapsWithSole [.Tuple [.Name x px, .Name y py] kt pt] (.Tuple [a, b] k2 pt2) pos.line X.env = pure false := by rfl) :
    MS X W (.Assign [.Tuple [.Name x px, .Name y py] kt pt] (.Tuple [a, b] k2 pt2) pos) (sPar i j fs) := by
  refine psI (ps_par hc hN hi hj hij hx hy ha hw hs) ?_
  rintro D σ H ⟨ω, st, env, wd, re, h⟩
  refine ⟨ω, st, env, wd, re, (h.bind (Rel := RL X.K) re).mono ?_⟩
  rintro ys H1 ⟨ω1, st1, vs, e1, wd1, r1, h1⟩
  split at h1
  · rename_i v w
    cases r1 with
    | cons rv r =>
      cases r with
      | cons rw' r =>
        cases r
        exact ⟨_, _, rfl, h1.nx_here wd1 (((re.mono e1.le).set rv i).set rw' j)⟩
  · exact False.elim h1
theorem ms_sub {o i : Expr} {tpos : Pos} {p} (hS : StS X p) (ho : ME X W o fo) (hi : ME X W i fi) (he : ME X W e fe)
    (ha : ∀ v, assign (.Subscript o i tpos) X.env v = (do
      let ov ← holding [v] (eval o X.env)
      let iv ← holding [v, ov] (eval i X.env)
      standAt tpos
      holding [v, ov, iv] (setItem ov iv v)
      release [v, ov, iv] []) := by intro _; rfl)
    (hs : swapsWithSole [.Subscript o i tpos] e pos.line X.env = pure false := by rfl) (hw : swappedStores [.Subscript o i tpos] e X.env = pure none := by rfl)
    (h1 : (assignEach [.Subscript o i tpos] X.env).map (·.2) = [assign (.Subscript o i tpos) X.env] := by rfl) : MS X W (.Assign [.Subscript o i tpos] e pos) (sSub p fo fi fe) := by
  obtain ⟨t, ht, hi'⟩ := hS
  refine psI (ps_asg he (pg_sub ho hi ht ha) hs hw h1) ?_
  rintro D σ H ⟨ω, st, env, wd, re, h⟩
  refine ⟨ω, st, env, wd, re, (h.bind (Rel := RV X.K) re).mono ?_⟩
  rintro y H1 ⟨ω1, st1, v, e1, wd1, r1, h1⟩
  have re1 := re.mono e1.le
  refine ⟨ω1, st1, env, wd1, re1, (h1.bind (Rel := RV X.K) re1).mono ?_⟩
  rintro yo H2 ⟨ω2, st2, vo, e2, wd2, r2, h2⟩
  have re2 := re1.mono e2.le
  refine ⟨ω2, st2, env, wd2, re2, (h2.bind (Rel := RV X.K) re2).mono ?_⟩
  rintro yi H3 ⟨ω3, st3, vi, e3, wd3, r3, h3⟩
  have re3 := re2.mono e3.le
  refine hi' (wx W σ) ω3 st3 H3 vo vi v yo yi y _ wd3 (r2.mono e3.le) r3 (r1.mono (e2.le.trans e3.le)) ((h3.bind (Rel := fun _ _ _ => True) re3).mono ?_)
  rintro _ H4 ⟨ω4, st4, _, e4, wd4, _, h4⟩
  exact h4.nx_here wd4 (re3.mono e4.le)
end
/-! ### walks -/
/-- the items of a walk; pl: the place of the store where they stand, and must stand while it is walked -/
structure Itms where
  xs : List PV
  pl : Option (Nat × List PV)
def Itms.ok (p : Itms) (st : Store) : Prop := match p.pl with
  | none => True
  | some (l, ys) => st[l]? = some (.lst ys)
/-- the iterator J gives the items of p -/
structure ItR (K : PySem.W.Frag) (ω : Wo) (p : Itms) (J : It) : Prop where
  goes : ∀ i ω1 st H, i < p.xs.length → ω.Le ω1 → Wd K ω1 st H → p.ok st → J.go i H
  stops : ∀ ω1 st H, ω.Le ω1 → Wd K ω1 st H → p.ok st → J.stop p.xs.length H
  yields : ∀ i ω1 st H x H', i < p.xs.length → ω.Le ω1 → Wd K ω1 st H → p.ok st → J.yld i H x H' → ∃ ω2 v, Ext ω1 H ω2 H' ∧ Wd K ω2 st H' ∧ p.xs[i]? = some v ∧ Rep K ω2 v x
abbrev RI (K : PySem.W.Frag) : Wo → Itms → It → Prop := fun ω p J => ItR K ω p J
abbrev IM := PEnv → Store → Res Itms
abbrev MI (X : Cx) (W : WX) (t e : Expr) (f : IM) : Prop := PI X t e (tG X W (RI X.K) f)
theorem piI {X : Cx} {t e : Expr} {w w' : TI} (h : PI X t e w) (i : ∀ σ H Q, w' σ H Q → w σ H Q) : PI X t e w' := ⟨fun pins s σ H R I q => h.run pins s σ H R I (i σ H R q)⟩
open Classical in
noncomputable def sForL (tg : Tg) (body : SM) (ok : Store → Prop) : List PV → PEnv → Store → SR
  | [], env, st => if ok st then .nx env st else .stuck
  | v :: r, env, st => if ok st then match setTg tg v env with
    | none => .stuck
    | some env1 => match body env1 st with
      | .nx e s => sForL tg body ok r e s
      | .ct e s => sForL tg body ok r e s
      | .bk e s => .nx e s
      | .rt v s => .rt v s
      | .err e n fs s => .err e n fs s
      | .stuck => .stuck
    else .stuck
noncomputable def sFor (it : IM) (tg : Tg) (body : SM) : SM := fun env st => sOf (it env st) env fun p st1 => sForL tg body p.ok p.xs env st1
section
variable {X : Cx} {W : WX} {pos : Pos}
theorem ms_for {t iter : Expr} {body : List Stmt} {it : IM} {tg : Tg} {fb : SM} (hp : PassesOwn (model X.prog X.w) X.A X.env X.xe) (hc : X.calm = true) (hi : MI X W t iter it) (hg : MG X t tg) (hb : MB X W body fb)
    (hs : ∀ x, foldedSetIterable iter X.env x = pure x := by intro _; rfl) : MS X W (.For t iter body [] pos) (sFor it tg fb) := by
  refine psI (ps_for hp hc hi hg hb hs) ?_
  rintro D σ H ⟨ω, st, env, wd, re, h⟩
  refine ⟨ω, st, env, wd, re, (h.bind (Rel := RI X.K) re).mono ?_⟩
  rintro J H1 ⟨ω1, st1, ⟨xs, pl⟩, e1, wd1, r1, h1⟩
  refine ⟨fun i m σ' H' => m = xs.length - i ∧ i ≤ xs.length ∧ ∃ ω' st' env', ω1.Le ω' ∧ Wd X.K ω' st' H' ∧ REnv X.K ω' env' σ' ∧ AfterS X W ω' H' (sForL tg fb (Itms.ok ⟨xs, pl⟩) (xs.drop i) env' st') D,
    ⟨xs.length, by simp, Nat.zero_le _, ω1, st1, env, .refl _, wd1, re.mono e1.le, by simpa using h1⟩, ?_⟩
  rintro i m σ2 H2 ⟨rfl, hi, ω2, st2, env2, le2, wd2, re2, h2⟩
  have hok : Itms.ok ⟨xs, pl⟩ st2 := by
    by_cases hk : Itms.ok ⟨xs, pl⟩ st2
    · exact hk
    · cases q : xs.drop i with
      | nil => rw [q] at h2; unfold sForL at h2; rw [if_neg hk] at h2; exact False.elim h2
      | cons v r => rw [q] at h2; unfold sForL at h2; rw [if_neg hk] at h2; exact False.elim h2
  by_cases hlt : i < xs.length
  · refine .inr ⟨r1.goes i ω2 st2 H2 hlt le2 wd2 hok, fun σ' H' => ∃ ω' st' env', ω1.Le ω' ∧ Wd X.K ω' st' H' ∧ REnv X.K ω' env' σ' ∧ AfterS X W ω' H' (sForL tg fb (Itms.ok ⟨xs, pl⟩) (xs.drop (i + 1)) env' st') D,
      fun σ' H' q => ⟨xs.length - (i + 1), by omega, rfl, hlt, q⟩, fun x H3 y => ?_⟩
    obtain ⟨ω3, v, e3, wd3, hv, r3⟩ := r1.yields i ω2 st2 H2 x H3 hlt le2 wd2 hok y
    have hd : xs.drop i = v :: xs.drop (i + 1) := by
      have hv : xs[i]? = some v := hv
      rw [List.getElem?_eq_getElem hlt] at hv
      cases hv
      exact List.drop_eq_getElem_cons hlt
    rw [hd] at h2
    have h2 := h2.shift e3
    unfold sForL at h2
    rw [if_pos hok] at h2
    split at h2
    · exact False.elim h2
    · rename_i env3 q3
      refine gT_step wd3 (re2.mono e3.le) r3 q3 fun σ4 re4 _ => ?_
      refine ⟨ω3, st2, env3, wd3, re4, ?_⟩
      have le3 := le2.trans e3.le
      split at h2
      · rename_i q; rw [q]
        exact fun ω' H' σ' x w r => ⟨ω', _, _, le3.trans x.le, w, r, h2.shift x⟩
      · rename_i q; rw [q]
        exact fun ω' H' σ' x w r => ⟨ω', _, _, le3.trans x.le, w, r, h2.shift x⟩
      · rename_i q; rw [q]
        exact h2
      · rename_i q; rw [q]
        exact h2
      · rename_i q; rw [q]
        exact h2
      · exact False.elim h2
  · have e : i = xs.length := by omega
    subst e
    rw [List.drop_length] at h2
    unfold sForL at h2
    rw [if_pos hok] at h2
    exact .inl ⟨r1.stops ω2 st2 H2 le2 wd2 hok, AfterS.nx_here h2 wd2 re2⟩
end
/-! ### comprehensions -/
open Classical in
noncomputable def compL (tg : Tg) (test : TM) (elt : EM) (ok : Store → Prop) : List PV → PEnv → Store → List PV → Res (List PV)
  | [], _, st, acc => if ok st then .ok acc st else .stuck
  | v :: r, env, st, acc => if ok st then match setTg tg v env with
    | none => .stuck
    | some env1 => (noErr (test env1 st)).bind fun b st1 =>
      if b = true then (noErr (elt env1 st1)).bind fun y st2 => if acc.length < sizeLine then compL tg test elt ok r env st2 (acc ++ [y]) else .stuck
      else compL tg test elt ok r env st1 acc
    else .stuck
def fin (loc : Bool) (ys : List PV) (st : Store) : Res PV := match loc with
  | false => .ok (.lst ys) st
  | true => .ok (.loc st.length) (st ++ [.lst ys])
noncomputable def eCompG (loc : Bool) (own : List Nat) (it : IM) (tg : Tg) (test : TM) (elt : EM) : EM := fun env st => (it env st).bind fun p st1 => (compL tg test elt p.ok p.xs (wipeP env own) st1 []).bind fun ys st2 => fin loc ys st2
noncomputable abbrev eComp (own : List Nat) (it : IM) (tg : Tg) (test : TM) (elt : EM) : EM := eCompG false own it tg test elt
noncomputable abbrev eCompLoc (own : List Nat) (it : IM) (tg : Tg) (test : TM) (elt : EM) : EM := eCompG true own it tg test elt
def tYesM : TM := fun _ st => .ok true st
abbrev MTs (X : Cx) (W : WX) (es : List Expr) (f : TM) : Prop := PTs X es (tG X W RQ f)
theorem ptsI {X : Cx} {e : List Expr} {t t' : TT} (h : PTs X e t) (i : ∀ σ H Q, t' σ H Q → t σ H Q) : PTs X e t' := ⟨fun pins s σ H Q I q => h.run pins s σ H Q I (i σ H Q q)⟩
theorem mts_nil {X : Cx} {W : WX} : MTs X W [] tYesM := ptsI pts_nil fun σ H Q ⟨ω, st, env, wd, re, h⟩ => h.ok_here wd rfl
theorem mts_one {X : Cx} {W : WX} {c : Expr} {f : TM} (h : MT X W c f) : MTs X W [c] f := pts_one h
abbrev W0 : WX := fun _ _ _ _ => False
section
variable {K : PySem.W.Frag} {ω : Wo} {st : Store} {H : Hp}
theorem Wd.other (h : Wd K ω st H) {p : Addr} {o : HO} (nF : ω.F p = none) (nρ : p ∉ ω.ρ) : Wd K ω st (upd H p o) := by
  refine ⟨fun b u e => ?_, h.len, h.nd, h.sep, fun l a q e1 e2 => ?_⟩
  · rw [upd_ne (ne_of_none e nF)]
    exact h.sub b u e
  · have na : a ≠ p := fun z => nρ (by rw [← z]; exact List.mem_of_getElem? e1)
    have hq := h.obj l a q e1 e2
    cases q with
    | lst xs =>
      obtain ⟨vs, e, r⟩ := hq
      exact ⟨vs, by rw [upd_ne na]; exact e, r⟩
/-- an object that stands is frozen -/
theorem Wd.freeze (h : Wd K ω st H) {p : Addr} {o : HO} (e : H p = some o) (nF : ω.F p = none) (nρ : p ∉ ω.ρ) : Wd K (ω.fz p o) st H := by
  have le := Wo.fz_le (o := o) nF
  refine ⟨fun b u q => ?_, h.len, h.nd, fun a m => ?_, fun l a q e1 e2 => ?_⟩
  · by_cases hb : b = p
    · subst hb
      have q : upd ω.F b o b = some u := q
      rw [upd_same] at q
      cases q
      exact e
    · have q : upd ω.F p o b = some u := q
      rw [upd_ne hb] at q
      exact h.sub b u q
  · show upd ω.F p o a = none
    rw [upd_ne (fun z => nρ (by rw [← z]; exact m))]
    exact h.sep a m
  · have hq := h.obj l a q e1 e2
    cases q with
    | lst xs =>
      obtain ⟨vs, e, r⟩ := hq
      exact ⟨vs, e, r.mono le⟩
/-- a list that stands becomes a place of the store -/
theorem Wd.adopt (h : Wd K ω st H) {p : Addr} {vs : List V} {xs : List PV} (e : H p = some (.lst vs)) (nF : ω.F p = none) (nρ : p ∉ ω.ρ) (r : Reps K ω xs vs) : Wd K (ω.nw p) (st ++ [.lst xs]) H := by
  have le : ω.Le (ω.nw p) := Wo.nw_le
  refine ⟨h.sub, by simp [h.len], ?_, fun a m => ?_, fun l a q e1 e2 => ?_⟩
  · refine List.nodup_append.mpr ⟨h.nd, by simp, fun a ha b hb => ?_⟩
    have e : b = p := by simpa using hb
    subst e
    intro z
    exact nρ (by rw [← z]; exact ha)
  · rcases List.mem_append.mp m with m | m
    · exact h.sep a m
    · have e : a = p := by simpa using m
      subst e; exact nF
  · rcases Nat.lt_or_ge l st.length with hl | hl
    · have e1' : ω.ρ[l]? = some a := by
        have e1 : (ω.ρ ++ [p])[l]? = some a := e1
        rw [List.getElem?_append_left (by rw [h.len]; exact hl)] at e1
        exact e1
      rw [List.getElem?_append_left hl] at e2
      have hq := h.obj l a q e1' e2
      cases q with
      | lst ys =>
        obtain ⟨ws, e, r'⟩ := hq
        exact ⟨ws, e, r'.mono le⟩
    · have e1 : (ω.ρ ++ [p])[l]? = some a := e1
      rw [List.getElem?_append_right (by rw [h.len]; exact hl)] at e1
      rw [List.getElem?_append_right hl] at e2
      have z : l - st.length = 0 := by
        rcases Nat.eq_zero_or_pos (l - st.length) with z | z
        · exact z
        · rw [List.getElem?_eq_none (by simp only [List.length_singleton]; omega)] at e2; cases e2
      rw [z] at e2
      rw [h.len, z] at e1
      simp only [List.getElem?_cons_zero, Option.some.injEq] at e1 e2
      subst e1
      subst e2
      exact ⟨vs, e, r.mono le⟩
end
/-- an object that stands and is told of nowhere, between two heaps -/
theorem Ext.apart {ω ω' : Wo} {H H' : Hp} (x : Ext ω H ω' H') {D : Addr} {o : HO} (e : H D = some o) (nF : ω.F D = none) (nρ : D ∉ ω.ρ) : H' D = some o ∧ ω'.F D = none ∧ D ∉ ω'.ρ := by
  refine ⟨x.oth D o e nρ, ?_, fun m => ?_⟩
  · cases q : ω'.F D with
    | none => rfl
    | some u =>
      rcases x.nF D (by rw [q]; simp) with z | z
      · exact absurd nF z
      · rw [e] at z; cases z
  · rcases x.nρ D m with z | z
    · exact nρ z
    · rw [e] at z; cases z
section
variable {X : Cx} {W : WX} {pos : Pos}
/-- behind i items: acc made so far lies at D -/
structure CompAt (X : Cx) (loc : Bool) (G : Gd) (E : XK) (ω1 : Wo) (H1 : Hp) (D : Addr) (tg : Tg) (test : TM) (elt : EM) (env : PEnv) (p : Itms) (Q : VK) (i : Nat) (H : Hp) : Prop where
  ex : ∃ ω' st' acc vs, Ext ω1 H1 ω' H ∧ Wd X.K ω' st' H ∧ H D = some (.lst vs) ∧ ω'.F D = none ∧ D ∉ ω'.ρ ∧ Reps X.K ω' acc vs ∧
    After G E ω1 H1 ((compL tg test elt p.ok (p.xs.drop i) env st' acc).bind fun ys st2 => fin loc ys st2) (RV X.K) Q
theorem comp_step {loc : Bool} {g : TG} {tt : TT} {te : TE} {own : List Nat} {it : IM} {tg : Tg} {test : TM} {elt : EM} {wi : TI} {σ : L2.St} {H : Hp} {Q : VK}
    (hwi : wi = tG X W (RI X.K) it) (hg : g = gT X.K tg) (htt : tt = tG X W0 RQ test) (hte : te = tG X W0 (RV X.K) elt) (hsl : ∀ i ∈ tg.slots, i ∈ own)
    (h : tG X W (RV X.K) (eCompG loc own it tg test elt) σ H Q) : tLc wi g tt te own σ H Q := by
  subst hwi hg htt hte
  obtain ⟨ω, st, env, wd, re, h⟩ := h
  refine ⟨ω, st, env, wd, re, (After.bind (Rel := RI X.K) h).mono ?_⟩
  rintro J H1 ⟨ω1, st1, ⟨xs, pl⟩, e1, wd1, r1, h1⟩
  intro D hD
  have re1 : REnv X.K ω1 (wipeP env own) (L2.wipe σ own) := (re.mono e1.le).wipe own
  have nFD : ω1.F D = none := wd1.fresh hD
  have nρD : D ∉ ω1.ρ := fun m => by
    obtain ⟨u, e⟩ := wd1.there m
    rw [hD] at e; cases e
  have x0 : Ext ω1 H1 ω1 (upd H1 D (.lst [])) := by
    refine ⟨.refl _, fun b o e _ => ?_, fun b z => ?_, fun b z => .inl z, fun b m => .inl m⟩
    · rw [upd_ne (ne_of_none e hD)]; exact e
    · by_cases hb : b = D
      · subst hb; rw [upd_same]; simp
      · rw [upd_ne hb]; exact z
  refine ⟨fun i m H' => m = xs.length - i ∧ i ≤ xs.length ∧ CompAt X loc (gd X) (wx W σ) ω1 H1 D tg test elt (wipeP env own) ⟨xs, pl⟩ Q i H',
    ⟨xs.length, by simp, Nat.zero_le _, ω1, st1, [], [], x0, wd1.other nFD nρD, upd_same, nFD, nρD, .nil, by simpa using h1⟩, ?_⟩
  rintro i m H2 ⟨rfl, hi, ⟨ω2, st2, acc, vs, x2, wd2, hD2, nF2, nρ2, ra, h2⟩⟩
  have le2 := x2.le
  have h2 : After (gd X) (wx W σ) ω1 H1 ((compL tg test elt (Itms.ok ⟨xs, pl⟩) (xs.drop i) (wipeP env own) st2 acc).bind fun ys st2 => fin loc ys st2) (RV X.K) Q := h2
  have hok : Itms.ok ⟨xs, pl⟩ st2 := by
    by_cases hk : Itms.ok ⟨xs, pl⟩ st2
    · exact hk
    · cases q : xs.drop i with
      | nil => rw [q] at h2; unfold compL at h2; rw [if_neg hk] at h2; exact False.elim h2
      | cons v r => rw [q] at h2; unfold compL at h2; rw [if_neg hk] at h2; exact False.elim h2
  by_cases hlt : i < xs.length
  · refine .inr ⟨r1.goes i ω2 st2 H2 hlt le2 wd2 hok, fun H' => CompAt X loc (gd X) (wx W σ) ω1 H1 D tg test elt (wipeP env own) ⟨xs, pl⟩ Q (i + 1) H', fun H' q => ⟨xs.length - (i + 1), by omega, rfl, hlt, q⟩, fun x H3 y => ?_⟩
    obtain ⟨ω3, v, e3, wd3, hv, r3⟩ := r1.yields i ω2 st2 H2 x H3 hlt le2 wd2 hok y
    have hd : xs.drop i = v :: xs.drop (i + 1) := by
      have hv : xs[i]? = some v := hv
      rw [List.getElem?_eq_getElem hlt] at hv
      cases hv
      exact List.drop_eq_getElem_cons hlt
    rw [hd] at h2
    obtain ⟨hD3, nF3, nρ3⟩ := e3.apart hD2 nF2 nρ2
    unfold compL at h2
    rw [if_pos hok] at h2
    split at h2
    · exact False.elim h2
    · rename_i env3 q3
      have re3 := re1.mono (le2.trans e3.le)
      refine gT_step wd3 re3 r3 q3 fun σ4 re4 b4 => ⟨?_, ?_⟩
      · have b : But own (L2.wipe σ own) σ4 := ⟨b4.1, fun j n => b4.2 j fun m => n (hsl j m)⟩
        rw [wipe_but b]
        exact wipe_but ⟨wipe_length σ own, fun j n => wipe_out n⟩
      · -- the test
        have ht : After (gd X) (wx W0 σ4) ω3 H3 (test env3 st2) RQ fun b H4 => ∃ ω4 st4, Ext ω3 H3 ω4 H4 ∧ Wd X.K ω4 st4 H4 ∧
            After (gd X) (wx W σ) ω1 H1 ((if b = true then (noErr (elt env3 st4)).bind fun y st5 => if acc.length < sizeLine then compL tg test elt (Itms.ok ⟨xs, pl⟩) (xs.drop (i + 1)) (wipeP env own) st5 (acc ++ [y]) else .stuck
              else compL tg test elt (Itms.ok ⟨xs, pl⟩) (xs.drop (i + 1)) (wipeP env own) st4 acc).bind fun ys st2 => fin loc ys st2) (RV X.K) Q := by
          cases qt : test env3 st2 with
          | ok b st' =>
            rw [qt] at h2
            intro ω' H' b' ex w rb
            have rb : b = b' := rb
            subst rb
            exact ⟨ω', st', ex, w, h2⟩
          | err n f st' => rw [qt] at h2; exact False.elim h2
          | stuck => rw [qt] at h2; exact False.elim h2
        refine ⟨ω3, st2, env3, wd3, re4, ht.mono ?_⟩
        rintro b H4 ⟨ω4, st4, e4, wd4, h4⟩
        obtain ⟨hD4, nF4, nρ4⟩ := e4.apart hD3 nF3 nρ3
        have ra4 := ra.mono (e3.le.trans e4.le)
        have x4 := x2.trans (e3.trans e4)
        cases b with
        | false =>
          refine iteF ⟨ω4, st4, acc, vs, x4, wd4, hD4, nF4, nρ4, ra4, ?_⟩
          simpa using h4
        | true =>
          refine iteT ?_
          rw [if_pos rfl] at h4
          have he : After (gd X) (wx W0 σ4) ω4 H4 (elt env3 st4) (RV X.K) fun y H5 => ∃ ω5 st5 yv, Ext ω4 H4 ω5 H5 ∧ Wd X.K ω5 st5 H5 ∧ Rep X.K ω5 yv y ∧ acc.length < sizeLine ∧
              After (gd X) (wx W σ) ω1 H1 ((compL tg test elt (Itms.ok ⟨xs, pl⟩) (xs.drop (i + 1)) (wipeP env own) st5 (acc ++ [yv])).bind fun ys st2 => fin loc ys st2) (RV X.K) Q := by
            cases qe : elt env3 st4 with
            | ok y st' =>
              rw [qe] at h4
              have h4 : After (gd X) (wx W σ) ω1 H1 ((if acc.length < sizeLine then compL tg test elt (Itms.ok ⟨xs, pl⟩) (xs.drop (i + 1)) (wipeP env own) st' (acc ++ [y]) else Res.stuck).bind fun ys st2 => fin loc ys st2) (RV X.K) Q := h4
              intro ω' H' y' ex w ry
              by_cases hz : acc.length < sizeLine
              · rw [if_pos hz] at h4
                exact ⟨ω', st', y, ex, w, ry, hz, h4⟩
              · rw [if_neg hz] at h4
                exact False.elim h4
            | err n f st' => rw [qe] at h4; exact False.elim h4
            | stuck => rw [qe] at h4; exact False.elim h4
          refine ⟨ω4, st4, env3, wd4, re4.mono e4.le, he.mono ?_⟩
          rintro yv H5 ⟨ω5, st5, y, e5, wd5, r5, hz, h5⟩
          obtain ⟨hD5, nF5, nρ5⟩ := e5.apart hD4 nF4 nρ4
          have ra5 := ra4.mono e5.le
          refine ⟨vs, hD5, by rw [← ra.length]; exact hz, ?_⟩
          have xD : Ext ω1 H1 ω5 (upd H5 D (.lst (vs ++ [yv]))) := by
            have z := x4.trans e5
            refine ⟨z.le, fun b o e n => ?_, fun b q => ?_, z.nF, z.nρ⟩
            · rw [upd_ne (ne_of_none e hD)]; exact z.oth b o e n
            · by_cases hb : b = D
              · subst hb; rw [upd_same]; simp
              · rw [upd_ne hb]; exact z.live b q
          exact ⟨ω5, st5, acc ++ [y], vs ++ [yv], xD, wd5.other nF5 nρ5, upd_same, nF5, nρ5, ra5.append (Reps.one r5), h5⟩
  · have e : i = xs.length := by omega
    subst e
    rw [List.drop_length] at h2
    unfold compL at h2
    rw [if_pos hok] at h2
    refine .inl ⟨r1.stops ω2 st2 H2 le2 wd2 hok, ?_⟩
    cases loc with
    | false =>
      have h2 : After (gd X) (wx W σ) ω1 H1 (.ok (.lst acc) st2) (RV X.K) Q := h2
      have w := wd2.freeze hD2 nF2 nρ2
      have le := Wo.fz_le (o := .lst vs) nF2
      refine h2 _ H2 (.ref D) ⟨le2.trans le, x2.oth, x2.live, fun b z => ?_, x2.nρ⟩ w (.lst upd_same (ra.mono le))
      by_cases hb : b = D
      · subst hb; exact .inr hD
      · have z : upd ω2.F D (.lst vs) b ≠ none := z
        rw [upd_ne hb] at z
        exact x2.nF b z
    | true =>
      have h2 : After (gd X) (wx W σ) ω1 H1 (.ok (.loc st2.length) (st2 ++ [.lst acc])) (RV X.K) Q := h2
      have w := wd2.adopt hD2 nF2 nρ2 ra
      refine h2 _ H2 (.ref D) ⟨le2.trans Wo.nw_le, x2.oth, x2.live, x2.nF, fun b m => ?_⟩ w (.loc ?_)
      · rcases List.mem_append.mp m with m | m
        · exact x2.nρ b m
        · have e : b = D := by simpa using m
          subst e; exact .inr hD
      · rw [← wd2.len]
        simp
theorem me_compG (loc : Bool) {elt tg iter : Expr} {ifs : List Expr} {scope : Scope} {own : List (Str × Nat)} {it : IM} {t : Tg} {ft : TM} {fe : EM} (hc : X.calm = true) (hN : X.N.Nodup) (hi : MI X W tg iter it) (ok : BlkOk X.N X.env.scope scope own)
    (hg : ∀ (s : Shared) (H : Hp) (C : Addr) (cl : List (Str × Addr)) (fp : List Addr), MG (X.blk s H scope (compEnvC scope cl C X.env) fp) tg t)
    (ht : ∀ (s : Shared) (H : Hp) (C : Addr) (cl : List (Str × Addr)) (fp : List Addr), MTs (X.blk s H scope (compEnvC scope cl C X.env) fp) W0 ifs ft)
    (he : ∀ (s : Shared) (H : Hp) (C : Addr) (cl : List (Str × Addr)) (fp : List Addr), ME (X.blk s H scope (compEnvC scope cl C X.env) fp) W0 elt fe)
    (hsl : ∀ i ∈ t.slots, i ∈ own.map (·.2) := by decide) (hs : ∀ x, foldedSetIterable iter X.env x = pure x := by intro _; rfl) :
    ME X W (.ListComp elt [⟨tg, iter, ifs, 0⟩] scope pos) (eCompG loc (own.map (·.2)) it t ft fe) :=
  peI (pe_lc (X := X) (g := gT X.K t) (tt := tG X W0 RQ ft) (te := tG X W0 (RV X.K) fe) hc hN hi ok hg ht he hs) fun σ H Q h => comp_step rfl rfl rfl rfl hsl h
theorem ms_setCompG (loc : Bool) {i : Nat} {y : Str} {py spos : Pos} {elt tg iter : Expr} {ifs : List Expr} {scope : Scope} {own : List (Str × Nat)} {it : IM} {t : Tg} {ft : TM} {fe : EM} (hc : X.calm = true) (hN : X.N.Nodup) (hi : MI X W tg iter it) (ok : BlkOk X.N X.env.scope scope own)
    (hg : ∀ (s : Shared) (H : Hp) (C : Addr) (cl : List (Str × Addr)) (fp : List Addr), MG (X.blk s H scope (compEnvC scope cl C X.env) fp) tg t)
    (ht : ∀ (s : Shared) (H : Hp) (C : Addr) (cl : List (Str × Addr)) (fp : List Addr), MTs (X.blk s H scope (compEnvC scope cl C X.env) fp) W0 ifs ft)
    (he : ∀ (s : Shared) (H : Hp) (C : Addr) (cl : List (Str × Addr)) (fp : List Addr), ME (X.blk s H scope (compEnvC scope cl C X.env) fp) W0 elt fe)
    (hy : X.N[i]? = some y := by rfl) (hyl : X.env.scope.names.lookup y = some .local := by rfl)
    (hsw : swapsWith (.ListComp elt [⟨tg, iter, ifs, 0⟩] scope pos) (some (.Name y py)) spos.line X.env = pure true := by exact sw_true rfl rfl rfl (by decide +kernel))
    (hsl : ∀ i ∈ t.slots, i ∈ own.map (·.2) := by decide) (hs : ∀ x, foldedSetIterable iter X.env x = pure x := by intro _; rfl) :
    MS X W (.Assign [.Name y py] (.ListComp elt [⟨tg, iter, ifs, 0⟩] scope pos) spos) (sSet i (eCompG loc (own.map (·.2)) it t ft fe)) := by
  refine psI (ps_setLc (g := gT X.K t) (tt := tG X W0 RQ ft) (te := tG X W0 (RV X.K) fe) hc hN hy hyl hsw hi ok hg ht he hs) ?_
  rintro D σ H ⟨ω, st, env, wd, re, h⟩
  refine comp_step rfl rfl rfl rfl hsl ⟨ω, st, env, wd, re, (h.bind (Rel := RV X.K) re).mono ?_⟩
  rintro y H1 ⟨ω1, st1, v, e1, wd1, r1, h1⟩
  exact h1.nx_here wd1 ((re.mono e1.le).set r1 i)
end
/-! ### a def of the text -/
def runBody (N : Nat) (f : SM) : List PV → Store → Res PV := fun args st => match f (args.map some ++ List.replicate (N - args.length) none) st with
  | .nx _ st' => .ok .non st'
  | .rt v st' => .ok v st'
  | .err _ n fs st' => .err n fs st'
  | _ => .stuck
theorem Reps.rep_append {K : PySem.W.Frag} {ω : Wo} : ∀ {vs : List PV} {xs : List V} (m : Nat), Reps K ω vs xs → REnv K ω (vs.map some ++ List.replicate m none) (xs.map some ++ List.replicate m none)
  | _, _, m, .nil => ⟨by simp, fun i v e => by
      simp only [List.map_nil, List.nil_append] at e
      rw [List.getElem?_replicate] at e
      split at e <;> cases e⟩
  | _, _, m, .cons r t => by
    have ih := Reps.rep_append m t
    refine ⟨by simpa using ih.len, fun i v e => ?_⟩
    cases i with
    | zero => simp at e; subst e; exact ⟨_, by simp, r⟩
    | succ i => exact ih.at' i v (by simpa using e)
section
variable {P : Program} {w : World} {K : PySem.W.Frag} {mg : Str → Option Value} {base : Heap}
/-- THE RULE for a def that lets no exception out -/
theorem okP {x qual : Str} {st : Stmt} {f : Addr} {fd : FuncData} {N ps : List Str} {k : Nat} {fm : SM} (F : Fun K x qual st f fd) (S : FnScope N ps (defScope st))
    (hbody : ∀ (cdv : Value) (A : Around) (outer : List Env) (s : Shared) (H : Hp) (E : XK), Room k (A.deeper (envOfC qual (defScope st) s.heap.objs.size f cdv)) →
      MB (cxOf CX0 P w K mg base N qual (defScope st) f cdv A outer s H E).nox W0 (defBody st) fm) :
    FnOk P w K mg base CX0 (k + 1) f fd ps (spP ⟨K, mg⟩ ps.length (nE (runBody N.length fm))) := by
  refine F.ok S (fun vs H Q E h => spP_len h) fun cdv A outer s H vs Q E hr h => ⟨_, hbody cdv A outer s H E hr, ?_⟩
  have hl := spP_len h
  obtain ⟨ω, s0, args, wd, r, h⟩ := h
  unfold guardN at h
  rw [if_pos (by rw [r.length]; exact hl)] at h
  refine ⟨ω, s0, args.map some ++ List.replicate (N.length - args.length) none, wd, ?_, ?_⟩
  · unfold L2.start
    rw [r.length]
    exact r.rep_append _
  · have h : After ⟨K, mg⟩ E ω H (noErr (runBody N.length fm args s0)) (RV K) Q := h
    unfold runBody at h
    split at h
    · rename_i q; rw [q]
      exact fun ω' H' σ' x w r => h ω' H' .non x w .non
    · rename_i q; rw [q]
      exact fun ω' H' y x w r => h ω' H' y x w r
    · exact False.elim h
    · exact False.elim h
/-- a def of which nothing is known but its places: no promise -/
theorem okP_zero {x qual : Str} {st : Stmt} {f : Addr} {fd : FuncData} {N ps : List Str} (F : Fun K x qual st f fd) (S : FnScope N ps (defScope st)) :
    FnOk P w K mg base CX0 1 f fd ps (spP ⟨K, mg⟩ ps.length (nE fun _ _ => .stuck)) := by
  refine ⟨fun vs H Q E h => spP_len h, fun A outer s H args us vs Q E hr e0 hb r hsp => ?_⟩
  obtain ⟨ω, s0, args, wd, r, h⟩ := hsp
  unfold guardN at h
  split at h <;> exact False.elim h
/-- a def that calls itself: by turns -/
def fuelF (N : Nat) (body : (List PV → Store → Res PV) → SM) : Nat → List PV → Store → Res PV
  | 0 => fun _ _ => .stuck
  | n + 1 => runBody N (body (fuelF N body n))
theorem okP_rec {x qual : Str} {st : Stmt} {f : Addr} {fd : FuncData} {N ps : List Str} {k : Nat} {body : (List PV → Store → Res PV) → SM} (F : Fun K x qual st f fd) (S : FnScope N ps (defScope st)) (hk : 1 ≤ k)
    (hbody : ∀ (n : Nat), FnOk P w K mg base CX0 (k + n) f fd ps (spP ⟨K, mg⟩ ps.length (nE (fuelF N.length body n))) → ∀ (cdv : Value) (A : Around) (outer : List Env) (s : Shared) (H : Hp) (E : XK), Room (k + n) (A.deeper (envOfC qual (defScope st) s.heap.objs.size f cdv)) →
      MB (cxOf CX0 P w K mg base N qual (defScope st) f cdv A outer s H E).nox W0 (defBody st) (body (fuelF N.length body n))) :
    ∀ n, FnOk P w K mg base CX0 (k + n) f fd ps (spP ⟨K, mg⟩ ps.length (nE (fuelF N.length body n)))
  | 0 => (okP_zero F S).mono hk
  | n + 1 => okP F S (hbody n (okP_rec F S hk hbody n))
end
end PL
/-! PL, part d: operators and built-ins, by plain values. -/
namespace PL
open PySem PySem.Spec PyProof.Rows L2
/-! ### plain values as data -/
mutual
def toD : PV → PyData
  | .non => .none
  | .bl b => .bool b
  | .int i => .int i
  | .str x => .str x
  | .tup xs => .tuple (toDs xs)
  | .lst xs => .list (toDs xs)
  | .frz xs => .list (toDs xs)
  | .loc _ => .none
  | .con _ => .none
  | .exc _ _ _ _ => .none
def toDs : List PV → List PyData
  | [] => []
  | x :: xs => toD x :: toDs xs
end
mutual
def isD : PV → Bool
  | .non => true
  | .bl _ => true
  | .int _ => true
  | .str _ => true
  | .tup xs => isDs xs
  | .lst xs => isDs xs
  | .frz xs => isDs xs
  | .loc _ => false
  | .con _ => false
  | .exc _ _ _ _ => false
def isDs : List PV → Bool
  | [] => true
  | x :: xs => isD x && isDs xs
end
theorem toDs_map : ∀ xs : List PV, toDs xs = xs.map toD
  | [] => by simp [toDs]
  | x :: xs => by simp [toDs, toDs_map xs]
theorem isDs_mem : ∀ {xs : List PV}, isDs xs = true → ∀ x ∈ xs, isD x = true
  | [], _, x, m => by cases m
  | y :: xs, h, x, m => by
    simp only [isDs, Bool.and_eq_true] at h
    rcases List.mem_cons.mp m with e | m
    · rw [e]; exact h.1
    · exact isDs_mem h.2 x m
mutual
theorem plain_toD : ∀ v : PV, (toD v).plain = true
  | .non => by simp [toD, PyData.plain]
  | .bl _ => by simp [toD, PyData.plain]
  | .int _ => by simp [toD, PyData.plain]
  | .str _ => by simp [toD, PyData.plain]
  | .tup xs => by simp [toD, PyData.plain, plain_toDs xs]
  | .lst xs => by simp [toD, PyData.plain, plain_toDs xs]
  | .frz xs => by simp [toD, PyData.plain, plain_toDs xs]
  | .loc _ => by simp [toD, PyData.plain]
  | .con _ => by simp [toD, PyData.plain]
  | .exc _ _ _ _ => by simp [toD, PyData.plain]
theorem plain_toDs : ∀ vs : List PV, PyData.plainAll (toDs vs) = true
  | [] => by simp [toDs, PyData.plainAll]
  | x :: xs => by simp [toDs, PyData.plainAll, plain_toD x, plain_toDs xs]
end
section
variable {K : PySem.W.Frag} {ω : Wo} {H : Hp}
mutual
theorem Rep.dp (sub : Same ω.F H) : ∀ {v : PV} {x : V}, Rep K ω v x → isD v = true → Dp K H x (toD v)
  | _, _, .non, _ => by rw [toD]; exact .non
  | _, _, .bl b, _ => by rw [toD]; exact .bl b
  | _, _, .int i, _ => by rw [toD]; exact .int i
  | _, _, .str x, _ => by rw [toD]; exact .str x
  | _, _, .tup e r, d => by rw [toD]; exact .tup (.of (sub _ _ e)) (Reps.dp sub r (by simpa [isD] using d))
  | _, _, .lst e r, d => by rw [toD]; exact .lst (.of (sub _ _ e)) (Reps.dp sub r (by simpa [isD] using d))
  | _, _, .frz e r, d => by rw [toD]; exact .lst (sub.seq e) (Reps.dp sub r (by simpa [isD] using d))
  | _, _, .loc e, d => by simp [isD] at d
  | _, _, .con v, d => by simp [isD] at d
  | _, _, .exc _ _ _, d => by simp [isD] at d
theorem Reps.dp (sub : Same ω.F H) : ∀ {vs : List PV} {xs : List V}, Reps K ω vs xs → isDs vs = true → DpAll K H xs (toDs vs)
  | _, _, .nil, _ => by rw [toDs]; exact .nil
  | _, _, .cons r t, d => by
    rw [toDs]
    simp only [isDs, Bool.and_eq_true] at d
    exact .cons (Rep.dp sub r d.1) (Reps.dp sub t d.2)
end
end
/-- a list or tuple, read: whether a tuple, its items -/
def seqOf (st : Store) : PV → Option (Bool × List PV)
  | .tup xs => some (true, xs)
  | .lst xs => some (false, xs)
  | .frz xs => some (false, xs)
  | .loc l => match st[l]? with
    | some (.lst xs) => some (false, xs)
    | _ => none
  | _ => none
section
variable {K : PySem.W.Frag} {ω : Wo} {H : Hp} {st : Store}
theorem seqOf_rep (wd : Wd K ω st H) {v : PV} {x : V} (r : Rep K ω v x) {t : Bool} {xs : List PV} (e : seqOf st v = some (t, xs)) : ∃ a vs, x = .ref a ∧ Reps K ω xs vs ∧ ((t = true ∧ SqT K H a vs) ∨ (t = false ∧ SqL K H a vs)) := by
  cases r with
  | tup ea rs => cases e; exact ⟨_, _, rfl, rs, .inl ⟨rfl, .of (wd.sub _ _ ea)⟩⟩
  | lst ea rs => cases e; exact ⟨_, _, rfl, rs, .inr ⟨rfl, .of (wd.sub _ _ ea)⟩⟩
  | frz ea rs => cases e; exact ⟨_, _, rfl, rs, .inr ⟨rfl, wd.sub.seq ea⟩⟩
  | @loc a l ea =>
    unfold seqOf at e
    simp only at e
    split at e
    · rename_i ys q
      cases e
      obtain ⟨vs, h, rs⟩ := wd.obj _ _ _ ea q
      exact ⟨_, _, rfl, rs, .inr ⟨rfl, .of h⟩⟩
    · cases e
  | _ => cases e
end
/-! ### from a run to a rule -/
section
variable {X : Cx}
theorem OpS.mk' {f : Value → Value → Sem Value} {p : PV → PV → Store → Res PV}
    (h : ∀ (pins : List (Addr × Obj)) (s : Shared) (σ : L2.St) (H : Hp) (x y : V) (v u : Value) (Q : VK) (E : XK) (ω : Wo) (st : Store) (a b : PV), Inv X pins σ H s → RelV x v → RelV y u → Wd X.K ω st H → Rep X.K ω a x → Rep X.K ω b y →
      After (gd X) E ω H (p a b st) (RV X.K) Q → wpAny (model X.prog X.w) X.A (f v u) (EP X pins σ Q) X.xe s) : OpS X f p :=
  ⟨fun x y H Q => ∃ (E : XK) (ω : Wo) (st : Store) (a b : PV), Wd X.K ω st H ∧ Rep X.K ω a x ∧ Rep X.K ω b y ∧ After (gd X) E ω H (p a b st) (RV X.K) Q,
    fun pins s σ H x y v u Q I rx ry ⟨E, ω, st, a, b, wd, ra, rb, q⟩ => h pins s σ H x y v u Q E ω st a b I rx ry wd ra rb q, fun E ω st H v w x y Q wd r1 r2 q => ⟨E, ω, st, v, w, wd, r1, r2, q⟩⟩
theorem UnS.mk' {f : Value → Sem Value} {p : PV → Store → Res PV}
    (h : ∀ (pins : List (Addr × Obj)) (s : Shared) (σ : L2.St) (H : Hp) (x : V) (v : Value) (Q : VK) (E : XK) (ω : Wo) (st : Store) (a : PV), Inv X pins σ H s → RelV x v → Wd X.K ω st H → Rep X.K ω a x →
      After (gd X) E ω H (p a st) (RV X.K) Q → wpAny (model X.prog X.w) X.A (f v) (EP X pins σ Q) X.xe s) : UnS X f p :=
  ⟨fun x H Q => ∃ (E : XK) (ω : Wo) (st : Store) (a : PV), Wd X.K ω st H ∧ Rep X.K ω a x ∧ After (gd X) E ω H (p a st) (RV X.K) Q,
    fun pins s σ H x v Q I rx ⟨E, ω, st, a, wd, ra, q⟩ => h pins s σ H x v Q E ω st a I rx wd ra q, fun E ω st H v x Q wd r1 q => ⟨E, ω, st, v, wd, r1, q⟩⟩
theorem CallS.mk' {f : Value} {p : List PV → Store → Res PV}
    (h : ∀ (pins : List (Addr × Obj)) (s : Shared) (σ : L2.St) (H : Hp) (xs : List V) (us : List Value) (Q : VK) (E : XK) (ω : Wo) (st : Store) (as : List PV), Inv X pins σ H s → Vals xs us → Wd X.K ω st H → Reps X.K ω as xs →
      After (gd X) E ω H (p as st) (RV X.K) Q → wpAny (model X.prog X.w) X.A (call f us) (EP X pins σ Q) X.xe s) : CallS X f p :=
  ⟨fun xs H Q => ∃ (E : XK) (ω : Wo) (st : Store) (as : List PV), Wd X.K ω st H ∧ Reps X.K ω as xs ∧ After (gd X) E ω H (p as st) (RV X.K) Q,
    fun pins s σ H xs us Q I rx ⟨E, ω, st, as, wd, ra, q⟩ => h pins s σ H xs us Q E ω st as I rx wd ra q, fun E ω st H vs xs Q wd r1 q => ⟨E, ω, st, vs, wd, r1, q⟩⟩
end
/-! ### arithmetic -/
def pAdd : PV → PV → Store → Res PV
  | .int i, .int j, st => .ok (.int (i + j)) st
  | .str a, .str b, st => if a.length + b.length ≤ sizeLine then .ok (.str (a ++ b)) st else .stuck
  | .tup xs, .tup ys, st => if xs.length + ys.length ≤ sizeLine then .ok (.tup (xs ++ ys)) st else .stuck
  | .lst xs, .lst ys, st => if xs.length + ys.length ≤ sizeLine then .ok (.lst (xs ++ ys)) st else .stuck
  | .loc l, .lst ys, st => match st[l]? with
    | some (.lst xs) => if xs.length + ys.length ≤ sizeLine then .ok (.lst (xs ++ ys)) st else .stuck
    | _ => .stuck
  | _, _, _ => .stuck
def pSub : PV → PV → Store → Res PV
  | .int i, .int j, st => .ok (.int (i - j)) st
  | _, _, _ => .stuck
def pMul : PV → PV → Store → Res PV
  | .int i, .int j, st => if (i.natAbs < 2 ^ 64 ∨ j.natAbs < 2 ^ 64) ∨ i.natAbs.log2 + j.natAbs.log2 < 1000000 then .ok (.int (i * j)) st else .stuck
  | .tup xs, .int k, st => if xs ≠ [] ∧ 2 ≤ k ∧ k ≤ 1000 ∧ xs.length ≤ 1000 then .ok (.tup (List.replicate k.toNat xs).flatten) st else .stuck
  | _, _, _ => .stuck
def pFdiv : PV → PV → Store → Res PV
  | .int i, .int j, st => if 0 < j ∧ j.natAbs.log2 < 9000 then .ok (.int (i / j)) st else .stuck
  | _, _, _ => .stuck
def pMod : PV → PV → Store → Res PV
  | .int i, .int j, st => if 0 < j then .ok (.int (i % j)) st else .stuck
  | _, _, _ => .stuck
def pPow : PV → PV → Store → Res PV
  | .int i, .int j, st => if 0 ≤ j ∧ j ≤ 1000000 ∧ i.natAbs < 2 ^ 64 then .ok (.int (i ^ j.toNat)) st else .stuck
  | _, _, _ => .stuck
def pNeg : PV → Store → Res PV
  | .int i, st => .ok (.int (-i)) st
  | _, _ => .stuck
section
variable {X : Cx}
theorem os_add : OpS X (binaryOp .Add) pAdd := .mk' fun pins s σ H x y v u Q E ω st a b I rx ry wd ra rb h => by
  unfold pAdd at h
  split at h
  · cases ra; cases rb
    exact op_add pins s σ H _ _ v u Q I rx ry ⟨_, _, rfl, rfl, h.ok_here wd (.int _)⟩
  · split at h
    · rename_i hz
      cases ra; cases rb
      exact op_add_str pins s σ H _ _ v u Q I rx ry ⟨_, _, rfl, rfl, hz, h.ok_here wd (.str _)⟩
    · exact False.elim h
  · split at h
    · rename_i xs ys _ hz
      cases ra with
      | tup ea r1 =>
        cases rb with
        | tup eb r2 =>
          refine op_catA pins s σ H _ _ v u Q I rx ry ⟨_, _, _, _, rfl, rfl, .of (wd.sub _ _ ea), .of (wd.sub _ _ eb), by rw [← r1.length, ← r2.length]; exact hz, fun e => ?_, fun n e => ?_, fun n1 n2 p hp => ?_⟩
          · subst e
            cases r1
            exact h.ok_here wd (.tup eb r2)
          · subst e
            cases r2
            rw [List.append_nil] at h
            exact h.ok_here wd (.tup ea r1)
          · exact new_tup wd (r1.append r2) h p hp
    · exact False.elim h
  · split at h
    · rename_i xs ys _ hz
      cases ra with
      | lst ea r1 =>
        cases rb with
        | lst eb r2 =>
          exact op_cat pins s σ H _ _ v u Q I rx ry ⟨_, _, _, _, rfl, rfl, wd.sub _ _ ea, wd.sub _ _ eb, by rw [← r1.length, ← r2.length]; exact hz, new_lst wd (r1.append r2) h⟩
    · exact False.elim h
  · split at h
    · rename_i q
      split at h
      · rename_i hz
        cases ra with
        | loc ea =>
          cases rb with
          | lst eb r2 =>
            obtain ⟨ws, e, r1⟩ := wd.obj _ _ _ ea q
            exact op_cat pins s σ H _ _ v u Q I rx ry ⟨_, _, _, _, rfl, rfl, e, wd.sub _ _ eb, by rw [← r1.length, ← r2.length]; exact hz, new_lst wd (r1.append r2) h⟩
      · exact False.elim h
    · exact False.elim h
  · exact False.elim h
theorem os_sub : OpS X (binaryOp .Sub) pSub := .mk' fun pins s σ H x y v u Q E ω st a b I rx ry wd ra rb h => by
  unfold pSub at h
  split at h
  · cases ra; cases rb
    exact op_sub pins s σ H _ _ v u Q I rx ry ⟨_, _, rfl, rfl, h.ok_here wd (.int _)⟩
  · exact False.elim h
theorem os_mul : OpS X (binaryOp .Mult) pMul := .mk' fun pins s σ H x y v u Q E ω st a b I rx ry wd ra rb h => by
  unfold pMul at h
  split at h
  · split at h
    · rename_i hz
      cases ra; cases rb
      rcases hz with hz | hz
      · refine op_mul pins s σ H _ _ v u Q I rx ry ⟨_, _, rfl, rfl, ?_, h.ok_here wd (.int _)⟩
        unfold CMul
        omega
      · exact op_mulW pins s σ H _ _ v u Q I rx ry ⟨_, _, rfl, rfl, hz, h.ok_here wd (.int _)⟩
    · exact False.elim h
  · split at h
    · rename_i hz
      obtain ⟨h1, h2, h3, h4⟩ := hz
      cases ra with
      | tup ea r1 =>
        cases rb
        refine op_repT pins s σ H _ _ v u Q I rx ry ⟨_, _, _, rfl, rfl, .of (wd.sub _ _ ea), ?_, h2, h3, by rw [← r1.length]; exact h4, new_tup wd (r1.replicate _) h⟩
        intro e; subst e; cases r1; exact h1 rfl
    · exact False.elim h
  · exact False.elim h
theorem os_fdiv : OpS X (binaryOp .FloorDiv) pFdiv := .mk' fun pins s σ H x y v u Q E ω st a b I rx ry wd ra rb h => by
  unfold pFdiv at h
  split at h
  · split at h
    · rename_i hz
      cases ra; cases rb
      exact op_fdivW pins s σ H _ _ v u Q I rx ry ⟨_, _, rfl, rfl, hz, h.ok_here wd (.int _)⟩
    · exact False.elim h
  · exact False.elim h
theorem os_mod : OpS X (binaryOp .Mod) pMod := .mk' fun pins s σ H x y v u Q E ω st a b I rx ry wd ra rb h => by
  unfold pMod at h
  split at h
  · split at h
    · rename_i hz
      cases ra; cases rb
      exact op_mod pins s σ H _ _ v u Q I rx ry ⟨_, _, rfl, rfl, hz, h.ok_here wd (.int _)⟩
    · exact False.elim h
  · exact False.elim h
theorem os_pow : OpS X (binaryOp .Pow) pPow := .mk' fun pins s σ H x y v u Q E ω st a b I rx ry wd ra rb h => by
  unfold pPow at h
  split at h
  · split at h
    · rename_i hz
      cases ra; cases rb
      exact op_pow pins s σ H _ _ v u Q I rx ry ⟨_, _, rfl, rfl, hz, h.ok_here wd (.int _)⟩
    · exact False.elim h
  · exact False.elim h
theorem us_neg : UnS X (unaryOp .USub) pNeg := .mk' fun pins s σ H x v Q E ω st a I rx wd ra h => by
  unfold pNeg at h
  split at h
  · cases ra
    exact un_neg pins s σ H _ v Q I rx ⟨_, rfl, h.ok_here wd (.int _)⟩
  · exact False.elim h
end
/-! ### comparisons -/
def pEq (v w : PV) (st : Store) : Res PV := if isD v = true ∧ isD w = true ∧ min (toD v).depth (toD w).depth ≤ 64 then .ok (.bl (PyData.eqv (toD v) (toD w))) st else .stuck
def pNe (v w : PV) (st : Store) : Res PV := if isD v = true ∧ isD w = true ∧ min (toD v).depth (toD w).depth ≤ 64 then .ok (.bl (!PyData.eqv (toD v) (toD w))) st else .stuck
def isNn : PV → Bool
  | .non => true
  | _ => false
def OrdOk (v w : PV) : Prop := isD v = true ∧ isD w = true ∧ PySem.W.alike (toD v) (toD w) = true ∧ isNn v = false ∧ min (toD v).depth (toD w).depth ≤ 64
instance (v w : PV) : Decidable (OrdOk v w) := by unfold OrdOk; infer_instance
def pLt (v w : PV) (st : Store) : Res PV := if OrdOk v w then .ok (.bl (PySem.W.dataLt (toD v) (toD w))) st else .stuck
def pGt (v w : PV) (st : Store) : Res PV := if OrdOk v w then .ok (.bl (PySem.W.dataLt (toD w) (toD v))) st else .stuck
def pLe (v w : PV) (st : Store) : Res PV := if OrdOk v w then .ok (.bl (!PySem.W.dataLt (toD w) (toD v))) st else .stuck
def pGe (v w : PV) (st : Store) : Res PV := if OrdOk v w then .ok (.bl (!PySem.W.dataLt (toD v) (toD w))) st else .stuck
def inD (v : PV) (xs : List PV) : Bool := xs.any fun y => PyData.eqv (toD y) (toD v)
def inStr (a z : Str) : Bool := match a.cps.toList with
  | [c] => decide (c ∈ z.cps.toList)
  | _ => !(Builtin.Str.occurrences z a 0 z.length 1).isEmpty
def pIn (v w : PV) (st : Store) : Res PV := match v, w with
  | .str a, .str z => .ok (.bl (inStr a z)) st
  | _, _ => match seqOf st w with
    | some (_, xs) => if isD v = true ∧ isDs xs = true ∧ min (PyData.depthAll (toDs xs)) (toD v).depth ≤ 60 then .ok (.bl (inD v xs)) st else .stuck
    | none => .stuck
def pNotIn (v w : PV) (st : Store) : Res PV := match v, w with
  | .str a, .str z => .ok (.bl (!inStr a z)) st
  | _, _ => match seqOf st w with
    | some (_, xs) => if isD v = true ∧ isDs xs = true ∧ min (PyData.depthAll (toDs xs)) (toD v).depth ≤ 60 then .ok (.bl (!inD v xs)) st else .stuck
    | none => .stuck
def isNonP : PV → Option Bool
  | .non => some true
  | .con _ => none
  | _ => some false
def pIs (v w : PV) (st : Store) : Res PV := match w, isNonP v with
  | .non, some b => .ok (.bl b) st
  | _, _ => .stuck
def pIsNot (v w : PV) (st : Store) : Res PV := match w, isNonP v with
  | .non, some b => .ok (.bl (!b)) st
  | _, _ => .stuck
section
variable {X : Cx}
theorem Rep.reads {pins : List (Addr × Obj)} {s : Shared} {σ : L2.St} {H : Hp} {ω : Wo} {st : Store} {v : PV} {x : V} {u : Value} (I : Inv X pins σ H s) (wd : Wd X.K ω st H) (r : Rep X.K ω v x) (d : isD v = true) (rx : RelV x u) : ∃ as, Reads s.heap u (toD v) as :=
  Dp.reads I _ _ _ (r.dp wd.sub d) rx
theorem os_eq (hu : X.A.units + 64 < cLine) : OpS X (compareOp .Eq) pEq := .mk' fun pins s σ H x y v u Q E ω st a b I rx ry wd ra rb h => by
  unfold pEq at h
  split at h
  · rename_i hz
    obtain ⟨da, db, hd⟩ := hz
    obtain ⟨as, r1⟩ := ra.reads I wd da rx
    obtain ⟨bs, r2⟩ := rb.reads I wd db ry
    exact PySem.SeqAt.eq_plain r1 r2 (plain_toD _) (plain_toD _) (by omega) ⟨.bl _, H, I, rfl, h.ok_here wd (.bl _)⟩
  · exact False.elim h
theorem os_ne (hu : X.A.units + 64 < cLine) : OpS X (compareOp .NotEq) pNe := .mk' fun pins s σ H x y v u Q E ω st a b I rx ry wd ra rb h => by
  unfold pNe at h
  split at h
  · rename_i hz
    obtain ⟨da, db, hd⟩ := hz
    obtain ⟨as, r1⟩ := ra.reads I wd da rx
    obtain ⟨bs, r2⟩ := rb.reads I wd db ry
    exact PySem.SeqAt.ne_plain r1 r2 (plain_toD _) (plain_toD _) (by omega) ⟨.bl _, H, I, rfl, h.ok_here wd (.bl _)⟩
  · exact False.elim h
theorem toD_ne_none {v : PV} (d : isD v = true) (n : isNn v = false) : toD v ≠ .none := by
  cases v <;> first | (simp [isNn] at n; done) | (simp [isD] at d; done) | (rw [toD]; intro z; cases z)
theorem os_lt (hu : X.A.units + 64 < cLine) : OpS X (compareOp .Lt) pLt := .mk' fun pins s σ H x y v u Q E ω st a b I rx ry wd ra rb h => by
  unfold pLt at h
  split at h
  · rename_i hz
    obtain ⟨da, db, al, nn, hd⟩ := hz
    obtain ⟨as, r1⟩ := ra.reads I wd da rx
    obtain ⟨bs, r2⟩ := rb.reads I wd db ry
    exact PySem.W.lt_data r1 r2 al (toD_ne_none da nn) (by omega) ⟨.bl _, H, I, rfl, h.ok_here wd (.bl _)⟩
  · exact False.elim h
theorem os_gt (hu : X.A.units + 64 < cLine) : OpS X (compareOp .Gt) pGt := .mk' fun pins s σ H x y v u Q E ω st a b I rx ry wd ra rb h => by
  unfold pGt at h
  split at h
  · rename_i hz
    obtain ⟨da, db, al, nn, hd⟩ := hz
    obtain ⟨as, r1⟩ := ra.reads I wd da rx
    obtain ⟨bs, r2⟩ := rb.reads I wd db ry
    exact PySem.W.gt_data r1 r2 al (toD_ne_none da nn) (by omega) ⟨.bl _, H, I, rfl, h.ok_here wd (.bl _)⟩
  · exact False.elim h
theorem os_le (hu : X.A.units + 64 < cLine) : OpS X (compareOp .LtE) pLe := .mk' fun pins s σ H x y v u Q E ω st a b I rx ry wd ra rb h => by
  unfold pLe at h
  split at h
  · rename_i hz
    obtain ⟨da, db, al, nn, hd⟩ := hz
    obtain ⟨as, r1⟩ := ra.reads I wd da rx
    obtain ⟨bs, r2⟩ := rb.reads I wd db ry
    exact PySem.W.le_data r1 r2 al (toD_ne_none da nn) (by omega) ⟨.bl _, H, I, rfl, h.ok_here wd (.bl _)⟩
  · exact False.elim h
theorem os_ge (hu : X.A.units + 64 < cLine) : OpS X (compareOp .GtE) pGe := .mk' fun pins s σ H x y v u Q E ω st a b I rx ry wd ra rb h => by
  unfold pGe at h
  split at h
  · rename_i hz
    obtain ⟨da, db, al, nn, hd⟩ := hz
    obtain ⟨as, r1⟩ := ra.reads I wd da rx
    obtain ⟨bs, r2⟩ := rb.reads I wd db ry
    exact PySem.W.ge_data r1 r2 al (toD_ne_none da nn) (by omega) ⟨.bl _, H, I, rfl, h.ok_here wd (.bl _)⟩
  · exact False.elim h
theorem inStr_one {a : Str} {c : Nat} (e : a.cps.toList = [c]) : a = ⟨#[c]⟩ := by
  cases a with
  | mk cps =>
    have e : cps.toList = [c] := e
    have : cps = #[c] := by rw [← Array.toArray_toList (xs := cps), e]
    rw [this]
theorem os_in (hu : X.A.units + 64 < cLine) : OpS X (compareOp .In) pIn := .mk' fun pins s σ H x y v u Q E ω st a b I rx ry wd ra rb h => by
  unfold pIn at h
  split at h
  · cases ra; cases rb
    unfold inStr at h
    split at h
    · rename_i c e
      have e := inStr_one e
      subst e
      exact op_in_sign pins s σ H _ _ v u Q I rx ry ⟨_, _, rfl, rfl, h.ok_here wd (.bl _)⟩
    · exact op_in_str pins s σ H _ _ v u Q I rx ry ⟨_, _, rfl, rfl, h.ok_here wd (.bl _)⟩
  · split at h
    · rename_i t xs q
      split at h
      · rename_i hz
        obtain ⟨da, db, hd⟩ := hz
        obtain ⟨as, r1⟩ := ra.reads I wd da rx
        obtain ⟨p, ws, e, rs, ht⟩ := seqOf_rep wd rb q
        subst e
        have hin : Q (.bl ((toDs xs).any fun y => PyData.eqv y (toD a))) H := by
          rw [toDs_map, List.any_map]
          exact h.ok_here wd (.bl _)
        rcases ht with ⟨_, hq⟩ | ⟨_, hq⟩
        · obtain ⟨bs, r2⟩ := Dp.reads I _ _ _ (Dp.tup hq (rs.dp wd.sub db)) ry
          exact PySem.SeqAt.in_tuple_data r2 r1 (plain_toDs _) (plain_toD _) (by omega) ⟨.bl _, H, I, rfl, hin⟩
        · obtain ⟨bs, r2⟩ := Dp.reads I _ _ _ (Dp.lst hq (rs.dp wd.sub db)) ry
          exact PySem.SeqAt.in_list_data r2 r1 (plain_toDs _) (plain_toD _) (by omega) ⟨.bl _, H, I, rfl, hin⟩
      · exact False.elim h
    · exact False.elim h
theorem os_notIn (hu : X.A.units + 64 < cLine) : OpS X (compareOp .NotIn) pNotIn := .mk' fun pins s σ H x y v u Q E ω st a b I rx ry wd ra rb h => by
  unfold pNotIn at h
  split at h
  · cases ra; cases rb
    unfold inStr at h
    split at h
    · rename_i c e
      have e := inStr_one e
      subst e
      exact op_notIn_sign pins s σ H _ _ v u Q I rx ry ⟨_, _, rfl, rfl, h.ok_here wd (.bl _)⟩
    · exact op_notin_str pins s σ H _ _ v u Q I rx ry ⟨_, _, rfl, rfl, h.ok_here wd (.bl _)⟩
  · split at h
    · rename_i t xs q
      split at h
      · rename_i hz
        obtain ⟨da, db, hd⟩ := hz
        obtain ⟨as, r1⟩ := ra.reads I wd da rx
        obtain ⟨p, ws, e, rs, ht⟩ := seqOf_rep wd rb q
        subst e
        have hin : Q (.bl (!(toDs xs).any fun y => PyData.eqv y (toD a))) H := by
          rw [toDs_map, List.any_map]
          exact h.ok_here wd (.bl _)
        rcases ht with ⟨_, hq⟩ | ⟨_, hq⟩
        · obtain ⟨bs, r2⟩ := Dp.reads I _ _ _ (Dp.tup hq (rs.dp wd.sub db)) ry
          exact PySem.SeqAt.notIn_tuple_data r2 r1 (plain_toDs _) (plain_toD _) (by omega) ⟨.bl _, H, I, rfl, hin⟩
        · obtain ⟨bs, r2⟩ := Dp.reads I _ _ _ (Dp.lst hq (rs.dp wd.sub db)) ry
          exact PySem.SeqAt.notIn_list_data r2 r1 (plain_toDs _) (plain_toD _) (by omega) ⟨.bl _, H, I, rfl, hin⟩
      · exact False.elim h
    · exact False.elim h
theorem isNon_rep {K : PySem.W.Frag} {ω : Wo} {v : PV} {x : V} {b : Bool} (r : Rep K ω v x) (e : isNonP v = some b) : decide (x = .non) = b := by
  cases r <;> first | (cases e; simp) | (cases e)
theorem os_is : OpS X (compareOp .Is) pIs := .mk' fun pins s σ H x y v u Q E ω st a b I rx ry wd ra rb h => by
  unfold pIs at h
  split at h
  · rename_i k e
    cases rb
    refine op_isN pins s σ H _ _ v u Q I rx ry ⟨rfl, ?_⟩
    rw [isNon_rep ra e]
    exact h.ok_here wd (.bl _)
  · exact False.elim h
theorem os_isNot : OpS X (compareOp .IsNot) pIsNot := .mk' fun pins s σ H x y v u Q E ω st a b I rx ry wd ra rb h => by
  unfold pIsNot at h
  split at h
  · rename_i k e
    cases rb
    refine op_notN pins s σ H _ _ v u Q I rx ry ⟨rfl, ?_⟩
    rw [isNon_rep ra e]
    exact h.ok_here wd (.bl _)
  · exact False.elim h
end
/-! ### items, slices, stores -/
def pIx (v w : PV) (st : Store) : Res PV := match w with
  | .int i => match v with
    | .str z => match (if z.length ≤ sizeLine then atI z.cps.toList i else none) with
      | some c => .ok (.str ⟨#[c]⟩) st
      | none => .stuck
    | _ => match seqOf st v with
      | some (_, xs) => match atI xs i with
        | some y => .ok y st
        | none => .stuck
      | none => .stuck
  | _ => .stuck
def cutP (xs : List PV) (lo hi : Option Int) : List PV := (xs.drop (HT.sIx xs.length 0 lo)).take (HT.sIx xs.length xs.length hi - HT.sIx xs.length 0 lo)
def pSl (v : PV) (lo hi : Option Int) (st : Store) : Res PV := match v with
  | .str z => if z.length ≤ sizeLine then .ok (.str (cutS z lo hi)) st else .stuck
  | _ => match seqOf st v with
    | some (true, xs) => .ok (.tup (cutP xs lo hi)) st
    | some (false, xs) => .ok (.lst (cutP xs lo hi)) st
    | none => .stuck
def pSet (o i v : PV) (st : Store) : Res Unit := match o, i with
  | .loc l, .int k => match st[l]? with
    | some (.lst xs) => match ixN xs.length k with
      | some j => .ok () (st.set l (.lst (xs.set j v)))
      | none => .stuck
    | _ => .stuck
  | _, _ => .stuck
section
variable {X : Cx}
theorem is_ix : IxS X pIx := by
  refine ⟨_, ix_seq, fun E ω st H v w x y Q wd rv rw' h => ?_⟩
  unfold pIx at h
  split at h
  · rename_i i
    cases rw'
    split at h
    · rename_i z
      cases rv
      split at h
      · rename_i c e
        split at e
        · rename_i hz
          exact .inr (.inr ⟨z, i, c, rfl, rfl, hz, e, h.ok_here wd (.str _)⟩)
        · cases e
      · exact False.elim h
    · split at h
      · rename_i t xs q
        split at h
        · rename_i y e
          obtain ⟨p, ws, ep, rs, ht⟩ := seqOf_rep wd rv q
          subst ep
          unfold atI at e
          rw [Option.bind_eq_some_iff] at e
          obtain ⟨j, e1, e2⟩ := e
          obtain ⟨u, e3, ru⟩ := rs.get e2
          have e4 : atI ws i = some u := by
            unfold atI
            rw [← rs.length, e1]
            exact e3
          rcases ht with ⟨_, hq⟩ | ⟨_, hq⟩
          · exact .inr (.inl ⟨p, ws, i, u, rfl, rfl, hq, e4, h.ok_here wd ru⟩)
          · exact .inl ⟨p, ws, i, u, rfl, rfl, hq, e4, h.ok_here wd ru⟩
        · exact False.elim h
      · exact False.elim h
  · exact False.elim h
theorem cutP_rep {K : PySem.W.Frag} {ω : Wo} {xs : List PV} {ws : List V} (r : Reps K ω xs ws) (lo hi : Option Int) : Reps K ω (cutP xs lo hi) (cutV ws lo hi) := by
  unfold cutP cutV
  rw [← r.length]
  exact (r.drop _).take _
theorem ss_sl : SlS X pSl := by
  refine ⟨_, SlR.or sl_str (SlR.or sl_list sl_tupA), fun E ω st H v x lo hi Q wd rv h => ?_⟩
  unfold pSl at h
  split at h
  · split at h
    · rename_i hz
      cases rv
      exact .inl ⟨_, rfl, hz, h.ok_here wd (.str _)⟩
    · exact False.elim h
  · split at h
    · rename_i xs q
      obtain ⟨p, ws, ep, rs, ht⟩ := seqOf_rep wd rv q
      subst ep
      rcases ht with ⟨_, hq⟩ | ⟨e, _⟩
      · refine .inr (.inr ⟨p, ws, rfl, hq, fun hw => ?_, fun _ => new_tup wd (cutP_rep rs lo hi) h⟩)
        -- the whole: the tuple itself
        have hc : cutP xs lo hi = xs := by
          unfold cutP
          rw [rs.length, hw.1, hw.2, List.drop_zero, Nat.sub_zero, ← rs.length, List.take_length]
        rw [hc] at h
        cases rv with
        | tup ea r1 =>
          cases q
          exact h.ok_here wd (.tup ea r1)
        | loc ea =>
          unfold seqOf at q
          simp only at q
          split at q <;> cases q
        | _ => cases q
      · cases e
    · rename_i xs q
      obtain ⟨p, ws, ep, rs, ht⟩ := seqOf_rep wd rv q
      subst ep
      rcases ht with ⟨e, _⟩ | ⟨_, hq⟩
      · cases e
      · exact .inr (.inl ⟨p, ws, rfl, hq, new_lst wd (cutP_rep rs lo hi) h⟩)
    · exact False.elim h
end
end PL
/-! PL, part e: what is walked: lists, tuples, texts, ranges, enumerate. -/
namespace PySem
open Sem (wp)
set_option maxHeartbeats 1000000 in
theorem meets_enumerate_newB1 {v : Value} {o : Obj} {H : Heap → Prop} (B : Begins v o H) :
    Meets (Builtin.«enumerate.__new__» ⟨[.type "enumerate", v], []⟩) (fun _ R s => H s.heap ∧
      R (.ok (.ret (.ref (s.heap.push o).objs.size))) { s with heap := (s.heap.push o).push { cls := .type "enumerate", data := .fields #[.none, .bool false, .ref s.heap.objs.size, rawInt 0, .none, .none] } }) :=
  .of_wp fun prog w A R s h => by
    obtain ⟨hp, g, d, tk, os⟩ := s; obtain ⟨h1, h⟩ := h
    have hsub := sub_enumerate
    have q1 : ∀ {A' : Around} {E : Value → Shared → Prop} {Q : Value → Shared → Prop}, Q (.ref hp.objs.size) ⟨hp.push o, g, d, tk, os⟩ → wpAny (model prog w) A' (pyIter v) Q E ⟨hp, g, d, tk, os⟩ :=
      fun q => B.iter prog w _ _ ⟨hp, g, d, tk, os⟩ _ h1 q
    wp_walk using q1
    refine wpAny_stack_any fun st => wpAny_pure ?_
    split
    · rename_i c _ _ _ _ _
      cases (c == Value.type "enumerate")
      · wp_walk using q1
        exact ⟨_, rfl, h⟩
      · wp_walk using q1
        exact ⟨_, rfl, h⟩
    · wp_walk using q1
      exact ⟨_, rfl, h⟩
theorem call_enumerate_begins {prog : Program} {w : World} {A : Around} {E : Value → Shared → Prop} {s : Shared} {v : Value} {o : Obj} {H : Heap → Prop} {Q : Value → Shared → Prop} (B : Begins v o H) (h1 : H s.heap)
    (h : ∀ h', IsEnum h' (s.heap.objs.size + 1) s.heap.objs.size 0 .none → h'.get? s.heap.objs.size = some o → h'.objs.size = s.heap.objs.size + 2 →
      (∀ b o, s.heap.get? b = some o → h'.get? b = some o) → Q (.ref (s.heap.objs.size + 1)) { s with heap := h' }) :
    wpAny (model prog w) A (call (.type "enumerate") [v]) Q E s := by
  refine callType_new F.called_enumerate (by decide) (F.typeCall_enumerate_1 _) (F.newCall_enumerate_1 _) (fun obj => F.args_object_init_2 obj _) F.entry_enumerate_new
    (meets_enumerate_newB1 B) ⟨h1, ?_⟩
  have hz : (s.heap.push o).objs.size = s.heap.objs.size + 1 := Heap.size_push ..
  show _ ∧ _
  rw [hz]
  have he : IsEnum ((s.heap.push o).push { cls := .type "enumerate", data := .fields #[.none, .bool false, .ref s.heap.objs.size, rawInt 0, .none, .none] }) (s.heap.objs.size + 1) s.heap.objs.size 0 .none := by
    have := Heap.get?_push_size (s.heap.push o) (o := { cls := .type "enumerate", data := .fields #[.none, .bool false, .ref s.heap.objs.size, rawInt 0, .none, .none] }) rfl
    rw [hz] at this; exact this
  refine ⟨⟨_, he, rfl⟩, h _ he (Heap.get?_push_of_some _ (Heap.get?_push_size _ B.free)) (by rw [Heap.size_push, hz]) fun b o x => Heap.get?_push_of_some _ (Heap.get?_push_of_some _ x)⟩
end PySem
namespace PL
open PySem PySem.Spec PyProof.Rows L2
/-! ### enumerate(tuple) -/
def IteT (K : PySem.W.Frag) (a : Addr) : It :=
  ⟨fun i H => ∃ (xs : List V) (x : V), SqT K H a xs ∧ xs[i]? = some x, fun i H v H' => ∃ T x, v = .ref T ∧ H T = none ∧ H' = upd H T (.tup [.int (i : Nat), x]) ∧ ∀ xs, SqT K H a xs → xs[i]? = some x, fun i H => ∃ xs : List V, SqT K H a xs ∧ xs.length = i⟩
theorem turn_enumT {P : Program} {w : World} {K : PySem.W.Frag} {elts : List Expr} {kk : Nat} {tpos : Pos} (a e it : Addr) (hai : a ≠ it) (hea : e ≠ a) :
    Turn P w K (.Tuple elts kk tpos) (IteT K a) [e, it] e (fun i h => (∃ old, IsEnum h e it ((i : Nat) : Int) old) ∧ h.IsTupleIter it a i ∧ e ≠ it) where
  mem := by simp
  obj := fun i h st b hb => by
    obtain ⟨⟨old, he⟩, ⟨o, ho, hc, hd⟩, _⟩ := st
    have e' : b = e ∨ b = it := by simpa using hb
    rcases e' with z | z
    · rw [z]; exact ⟨_, he, fun v q => nomatch q⟩
    · rw [z]; exact ⟨o, ho, fun v q => by rw [hd] at q; cases q⟩
  keep := fun i h h' st k => let ⟨⟨old, he⟩, hi, hne⟩ := st; ⟨⟨old, k e (by simp) _ he⟩, hi.at fun o q => k it (by simp) o q, hne⟩
  item := by
    intro X hP hw hK hc i pins s σ H E I hf st hg
    subst hP hw hK
    obtain ⟨⟨old, he⟩, hit, hne⟩ := st
    obtain ⟨xs, x, hq, hx⟩ := hg
    obtain ⟨its, rv, p, hz⟩ := I.tuple hq
    obtain ⟨u, hu, ru⟩ := rv.get hx
    have hel : e < s.heap.objs.size := Heap.lt_size he
    have hil : it < s.heap.objs.size := by obtain ⟨_, q, _⟩ := hit; exact Heap.lt_size q
    have D := PySem.Draws.tuple (prog := X.prog) (w := X.w) (A := X.A.in1) (I.ok.hd hc) it a hai its.toArray
    have hlt : i < its.toArray.size := by
      rw [List.size_toArray]
      rcases Nat.lt_or_ge i its.length with z | z
      · exact z
      · rw [List.getElem?_eq_none z] at hu; cases hu
    refine wpAny_pyNext_enum_itemC D he ⟨hit, show s.heap.IsTuple a its.toArray from p⟩ hlt hne (by simp; exact ⟨hne, hea⟩) fun x' h' tk hP ho hS hT hsz hk => ?_
    have hx' : x' = u := by
      have hP : its.toArray[i]? = some x' := hP
      rw [List.getElem?_toArray, hu] at hP
      exact (Option.some.inj hP).symm
    subst hx'
    refine ⟨_, rfl, wpAny_letOwnedTupleGo_enum (s := { s with heap := h', toks := tk + 1 }) ho fun h'' he' sb => ?_⟩
    have hT2 : h''.get? s.heap.objs.size = some { cls := .type "tuple", data := .seq #[.int i tk, x'] } := (sb.2 _ (Nat.ne_of_gt hel)).trans hT
    have new : ObjOk X.prog X.w (upd H s.heap.objs.size (.tup [.int (i : Nat), x])) h'' s.heap.objs.size (.tup [.int (i : Nat), x]) :=
      ⟨by show 2 ≤ sizeLine; decide, [.int i tk, x'], .cons ⟨_, rfl⟩ (.cons ru .nil), ⟨_, hT2, rfl, _, rfl⟩⟩
    have I1 : Inv X pins σ (upd H s.heap.objs.size (.tup [.int (i : Nat), x])) { s with heap := h'', toks := tk + 1 } :=
      I.turnedNew (ch := [e, it]) (fun b ob hb q => (sb.2 b (fun z => hb (by simp [z]))).trans (hk b ob (fun z => hb (by simp [z])) (fun z => hb (by simp [z])) q)) hf (Nat.le_refl _) new
    refine ⟨.ref s.heap.objs.size, _, I1, rfl, ⟨_, x, rfl, I.hok.fresh (Nat.le_refl _), rfl, fun ys hy => by rw [I.tuple_inj hy hq]; exact hx⟩, ⟨⟨x', ?_⟩, hS.1.at fun o q => (sb.2 it (Ne.symm hne)).trans q, hne⟩, fun b hb => ?_⟩
    · have e1 : ((i + 1 : Nat) : Int) = (i : Int) + 1 := by omega
      rw [e1]; exact he'
    · have hb' : b < s.heap.objs.size := by
        have e' : b = e ∨ b = it := by simpa using hb
        rcases e' with z | z
        · rw [z]; exact hel
        · rw [z]; exact hil
      rw [upd_ne (Nat.ne_of_lt hb')]
      exact (hf b hb).1
  done := by
    intro X hP hw hK hc i pins s σ H E I hf st hg
    subst hP hw hK
    obtain ⟨⟨old, he⟩, hit, hne⟩ := st
    obtain ⟨xs, hq, hx⟩ := hg
    obtain ⟨its, rv, p, hz⟩ := I.tuple hq
    obtain ⟨f0, f1, f2, f3, f4, f5⟩ := hf it (by simp)
    have hl := rv.length
    have D := PySem.Draws.tuple (prog := X.prog) (w := X.w) (A := X.A.in1) (I.ok.hd hc) it a hai its.toArray
    have hi : its.toArray.size = i := by rw [List.size_toArray, ← hl]; exact hx
    refine wpAny_pyNext_enum_endD D he ?_ fun h' eb => ⟨rfl, I.turned (t' := s.toks) (fun b o hb q => eb b o hb q) f0 f1 f3 f4 f5⟩
    rw [hi]
    exact ⟨hit, show s.heap.IsTuple a its.toArray from p⟩
  self := fun A i s Q E st h => let ⟨⟨_, he⟩, _⟩ := st; wpAny_pyIter_enum he h
/-! ### the walks, by plain values -/
structure ItR0 (K : PySem.W.Frag) (ω : Wo) (xs : List PV) (J : It) : Prop where
  goes : ∀ i H, i < xs.length → Same ω.F H → J.go i H
  stops : ∀ H, Same ω.F H → J.stop xs.length H
  yields : ∀ i ω1 st H x H', i < xs.length → ω.Le ω1 → Wd K ω1 st H → J.yld i H x H' → ∃ ω2 v, Ext ω1 H ω2 H' ∧ Wd K ω2 st H' ∧ xs[i]? = some v ∧ Rep K ω2 v x
theorem ItR.of0 {K : PySem.W.Frag} {ω : Wo} {xs : List PV} {J : It} (h : ItR0 K ω xs J) : ItR K ω ⟨xs, none⟩ J :=
  ⟨fun i ω1 st H hi le wd _ => h.goes i H hi (le.fz.trans wd.sub), fun ω1 st H le wd _ => h.stops H (le.fz.trans wd.sub), fun i ω1 st H x H' hi le wd _ y => h.yields i ω1 st H x H' hi le wd y⟩
section
variable {K : PySem.W.Frag} {ω : Wo}
theorem itr_loc {a : Addr} {l : Nat} {xs : List PV} (e : ω.ρ[l]? = some a) : ItR K ω ⟨xs, some (l, xs)⟩ (Itl K a) where
  goes := fun i ω1 st H hi le wd ok => by
    obtain ⟨ws, h, r⟩ := wd.obj l a (.lst xs) (le.at e) ok
    have hw : i < ws.length := by rw [← r.length]; exact hi
    exact ⟨ws, ws[i], .of h, by simp [hw]⟩
  stops := fun ω1 st H le wd ok => by
    obtain ⟨ws, h, r⟩ := wd.obj l a (.lst xs) (le.at e) ok
    exact ⟨ws, .of h, by rw [r.length]; exact Nat.le_refl _⟩
  yields := fun i ω1 st H x H' hi le wd ok y => by
    obtain ⟨ws, h, r⟩ := wd.obj l a (.lst xs) (le.at e) ok
    obtain ⟨e1, y⟩ := y
    subst e1
    have hx := y ws (.of h)
    obtain ⟨v, hv, rv⟩ := r.get' hx
    exact ⟨ω1, v, .refl _ _, wd, hv, rv⟩
theorem itr_list {a : Addr} {xs : List PV} {ws : List V} (e : SqL K ω.F a ws) (r : Reps K ω xs ws) : ItR0 K ω xs (Itl K a) where
  goes := fun i H hi s => by
    have hw : i < ws.length := by rw [← r.length]; exact hi
    exact ⟨ws, ws[i], s.seq e, by simp [hw]⟩
  stops := fun H s => ⟨ws, s.seq e, by rw [r.length]; exact Nat.le_refl _⟩
  yields := fun i ω1 st H x H' hi le wd y => by
    obtain ⟨e1, y⟩ := y
    subst e1
    have hx := y ws (wd.sub.seq (le.fz.seq e))
    obtain ⟨v, hv, rv⟩ := r.get' hx
    exact ⟨ω1, v, .refl _ _, wd, hv, rv.mono le⟩
theorem sameT {H H' : Hp} {a : Addr} {xs : List V} (s : Same H H') (h : SqT K H a xs) : SqT K H' a xs := by
  rcases h with (h | ⟨o, h⟩) | h
  · exact .inl (.inl (s _ _ h))
  · exact .inl (.inr ⟨o, s _ _ h⟩)
  · exact .inr h
theorem itr_tup {a : Addr} {xs : List PV} {ws : List V} (e : ω.F a = some (.tup ws)) (r : Reps K ω xs ws) : ItR0 K ω xs (Itt K a) where
  goes := fun i H hi s => by
    have hw : i < ws.length := by rw [← r.length]; exact hi
    exact ⟨ws, ws[i], .of (s _ _ e), by simp [hw]⟩
  stops := fun H s => ⟨ws, .of (s _ _ e), by rw [r.length]; exact Nat.le_refl _⟩
  yields := fun i ω1 st H x H' hi le wd y => by
    obtain ⟨e1, y⟩ := y
    subst e1
    have hx := y ws (.of (wd.sub _ _ (le.fz _ _ e)))
    obtain ⟨v, hv, rv⟩ := r.get' hx
    exact ⟨ω1, v, .refl _ _, wd, hv, rv.mono le⟩
def signs (z : Str) : List PV := z.cps.toList.map fun c => .str ⟨#[c]⟩
theorem itr_str {z : Str} : ItR0 K ω (signs z) (Its z) where
  goes := fun i H hi s => by
    show i < z.cps.size
    simpa [signs] using hi
  stops := fun H s => by
    show z.cps.size ≤ _
    simp [signs]
  yields := fun i ω1 st H x H' hi le wd y => by
    obtain ⟨e1, c, hc, e2⟩ := y
    subst e1
    subst e2
    refine ⟨ω1, .str ⟨#[c]⟩, .refl _ _, wd, ?_, .str _⟩
    unfold signs
    rw [List.getElem?_map]
    have : z.cps.toList[i]? = some c := by rw [Array.getElem?_toList]; exact hc
    rw [this]
    rfl
def rngs (lo : Int) (n : Nat) : List PV := (List.range n).map fun (i : Nat) => .int (lo + (i : Int))
theorem itr_range {lo : Int} {n : Nat} : ItR0 K ω (rngs lo n) (Itr lo n) where
  goes := fun i H hi s => by
    show i < n
    simpa [rngs] using hi
  stops := fun H s => by
    show n ≤ _
    simp [rngs]
  yields := fun i ω1 st H x H' hi le wd y => by
    obtain ⟨e1, e2⟩ := y
    subst e1
    subst e2
    refine ⟨ω1, .int (lo + i), .refl _ _, wd, ?_, .int _⟩
    have hi : i < n := by simpa [rngs] using hi
    simp [rngs, hi]
def enums (xs : List PV) : List PV := xs.zipIdx.map fun p => .tup [.int (p.2 : Nat), p.1]
theorem enums_get {xs : List PV} {i : Nat} {v : PV} (h : xs[i]? = some v) : (enums xs)[i]? = some (.tup [.int (i : Nat), v]) := by
  unfold enums
  rw [List.getElem?_map, List.getElem?_zipIdx, h]
  simp
theorem enum_yield {st : Store} {H : Hp} {ω1 : Wo} {T : Addr} {x : V} {v : PV} {i : Nat} (wd : Wd K ω1 st H) (n : H T = none) (r : Rep K ω1 v x) :
    ∃ ω2 u, Ext ω1 H ω2 (upd H T (.tup [.int (i : Nat), x])) ∧ Wd K ω2 st (upd H T (.tup [.int (i : Nat), x])) ∧ (some (.tup [.int (i : Nat), v]) : Option PV) = some u ∧ Rep K ω2 u (.ref T) := by
  obtain ⟨w, e⟩ := wd.fz n (.tup [.int (i : Nat), x])
  exact ⟨_, _, e, w, rfl, .tup upd_same (.cons (.int _) (.cons (r.mono e.le) .nil))⟩
theorem itr_enumL {a : Addr} {xs : List PV} {ws : List V} (e : SqL K ω.F a ws) (r : Reps K ω xs ws) : ItR0 K ω (enums xs) (Ite K a) where
  goes := fun i H hi s => by
    have hw : i < ws.length := by rw [← r.length]; simpa [enums] using hi
    exact ⟨ws, ws[i], s.seq e, by simp [hw]⟩
  stops := fun H s => ⟨ws, s.seq e, by simp [enums, r.length]⟩
  yields := fun i ω1 st H x H' hi le wd y => by
    obtain ⟨T, z, e1, hT, e2, y⟩ := y
    subst e1
    subst e2
    have hx := y ws (wd.sub.seq (le.fz.seq e))
    obtain ⟨v, hv, rv⟩ := r.get' hx
    rw [enums_get hv]
    exact enum_yield wd hT (rv.mono le)
theorem itr_enumT {a : Addr} {xs : List PV} {ws : List V} (e : ω.F a = some (.tup ws)) (r : Reps K ω xs ws) : ItR0 K ω (enums xs) (IteT K a) where
  goes := fun i H hi s => by
    have hw : i < ws.length := by rw [← r.length]; simpa [enums] using hi
    exact ⟨ws, ws[i], .of (s _ _ e), by simp [hw]⟩
  stops := fun H s => ⟨ws, .of (s _ _ e), by simp [enums, r.length]⟩
  yields := fun i ω1 st H x H' hi le wd y => by
    obtain ⟨T, z, e1, hT, e2, y⟩ := y
    subst e1
    subst e2
    have hx := y ws (.of (wd.sub _ _ (le.fz _ _ e)))
    obtain ⟨v, hv, rv⟩ := r.get' hx
    rw [enums_get hv]
    exact enum_yield wd hT (rv.mono le)
end
/-- a finished list, a tuple, a text, walked -/
def pIter (v : PV) (st : Store) : Res Itms := match v with
  | .tup xs => .ok ⟨xs, none⟩ st
  | .lst xs => .ok ⟨xs, none⟩ st
  | .frz xs => .ok ⟨xs, none⟩ st
  | .str z => .ok ⟨signs z, none⟩ st
  | .loc l => match st[l]? with
    | some (.lst xs) => .ok ⟨xs, some (l, xs)⟩ st
    | none => .stuck
  | _ => .stuck
def iVal (f : EM) : IM := fun env st => (f env st).bind pIter
def pEnum (v : PV) (st : Store) : Res Itms := match v with
  | .tup xs => .ok ⟨enums xs, none⟩ st
  | .lst xs => .ok ⟨enums xs, none⟩ st
  | .frz xs => .ok ⟨enums xs, none⟩ st
  | _ => .stuck
def iEnumM (f : EM) : IM := fun env st => (f env st).bind pEnum
/-- range(n), range(a, b) -/
def pRange1 (vs : List PV) (st : Store) : Res Itms := match vs with
  | [.int j] => if -(2 ^ 62) ≤ j ∧ j < 2 ^ 62 then .ok ⟨rngs 0 j.toNat, none⟩ st else .stuck
  | _ => .stuck
def pRange2 (vs : List PV) (st : Store) : Res Itms := match vs with
  | [.int i, .int j] => if -(2 ^ 62) ≤ i ∧ i < 2 ^ 62 ∧ -(2 ^ 62) ≤ j ∧ j < 2 ^ 62 then .ok ⟨rngs i (j - i).toNat, none⟩ st else .stuck
  | _ => .stuck
def iRange1 (f : EM) : IM := fun env st => (aCons f aNil env st).bind pRange1
def iRange2 (f g : EM) : IM := fun env st => (aCons f (aCons g aNil) env st).bind pRange2
section
variable {X : Cx} {W : WX} {tg e : Expr} {f : EM} {fs : AM} {p pos : Pos}
theorem mi_val (he : ME X W e f) : MI X W tg e (iVal f) := by
  refine ⟨fun pins s σ H R I h => ?_⟩
  obtain ⟨ω, st, env, wd, re, h⟩ := h
  refine thn (he.run pins s σ H _ I ⟨ω, st, env, wd, re, After.bind (Rel := RV X.K) h⟩) fun v s1 hh => ?_
  obtain ⟨x, H1, I1, r1, ω1, st1, pv, e1, wd1, rp, h1⟩ := hh
  unfold pIter at h1
  split at h1
  · cases rp with
    | tup ea rs =>
      cases r1
      have q : R (Itt X.K _) H1 := h1.ok_here wd1 (.of0 (itr_tup ea rs))
      have hq : SqT X.K H1 _ _ := .of (wd1.sub _ _ ea)
      obtain ⟨its, rv, p, hz⟩ := I1.tuple hq
      refine wpAny_pyIter_tuple (show s1.heap.IsTuple _ its.toArray from p) ?_
      refine ⟨s1.heap.objs.size, [s1.heap.objs.size], _, _, H1, rfl, I1.kept (t' := s1.toks) fun b o e => Heap.get?_push_of_some _ e, turn_tuple _ _, ⟨_, Heap.get?_push_size _ rfl, rfl, rfl⟩, fun b hb => ?_, q⟩
      have e : b = s1.heap.objs.size := by simpa using hb
      subst e
      exact I1.fpOk (Nat.le_refl _) (I1.hok.fresh (Nat.le_refl _))
  · cases rp with
    | lst ea rs =>
      cases r1
      have q : R (Itl X.K _) H1 := h1.ok_here wd1 (.of0 (itr_list (.of ea) rs))
      have hq : SqL X.K H1 _ _ := .of (wd1.sub _ _ ea)
      obtain ⟨its, rv, p, hz⟩ := I1.list hq
      refine wpAny_pyIter_list p.isList ?_
      refine ⟨s1.heap.objs.size, [s1.heap.objs.size], _, _, H1, rfl, I1.kept (t' := s1.toks) fun b o e => Heap.get?_push_of_some _ e, turn_list _ _, ⟨_, Heap.get?_push_size _ rfl, rfl, rfl⟩, fun b hb => ?_, q⟩
      have e : b = s1.heap.objs.size := by simpa using hb
      subst e
      exact I1.fpOk (Nat.le_refl _) (I1.hok.fresh (Nat.le_refl _))
  · cases rp with
    | frz ea rs =>
      cases r1
      have q : R (Itl X.K _) H1 := h1.ok_here wd1 (.of0 (itr_list ea rs))
      have hq : SqL X.K H1 _ _ := wd1.sub.seq ea
      obtain ⟨its, rv, p, hz⟩ := I1.list hq
      refine wpAny_pyIter_list p.isList ?_
      refine ⟨s1.heap.objs.size, [s1.heap.objs.size], _, _, H1, rfl, I1.kept (t' := s1.toks) fun b o e => Heap.get?_push_of_some _ e, turn_list _ _, ⟨_, Heap.get?_push_size _ rfl, rfl, rfl⟩, fun b hb => ?_, q⟩
      have e : b = s1.heap.objs.size := by simpa using hb
      subst e
      exact I1.fpOk (Nat.le_refl _) (I1.hok.fresh (Nat.le_refl _))
  · rename_i z
    cases rp
    have q : R (Its z) H1 := h1.ok_here wd1 (.of0 itr_str)
    obtain ⟨t, rfl⟩ := r1
    cases ha : z.cps.all (· < 128)
    · exact wpAny_pyIter_wide ha (pi_one (tk := s1.toks) I1 _ (turn_str _ z t "str_iterator" (.inr rfl)) ⟨_, Heap.get?_push_size _ rfl, rfl, rfl⟩ q)
    · exact wpAny_pyIter_ascii ha (pi_one (tk := s1.toks) I1 _ (turn_str _ z t "str_ascii_iterator" (.inl rfl)) ⟨_, Heap.get?_push_size _ rfl, rfl, rfl⟩ q)
  · rename_i l
    split at h1
    · rename_i xs ok
      cases rp with
      | loc ea =>
        cases r1
        have q : R (Itl X.K _) H1 := h1.ok_here wd1 (itr_loc ea)
        obtain ⟨ws, hw, rs⟩ := wd1.obj _ _ _ ea ok
        have hq : SqL X.K H1 _ _ := .of hw
        obtain ⟨its, rv, p, hz⟩ := I1.list hq
        refine wpAny_pyIter_list p.isList ?_
        refine ⟨s1.heap.objs.size, [s1.heap.objs.size], _, _, H1, rfl, I1.kept (t' := s1.toks) fun b o e => Heap.get?_push_of_some _ e, turn_list _ _, ⟨_, Heap.get?_push_size _ rfl, rfl, rfl⟩, fun b hb => ?_, q⟩
        have e : b = s1.heap.objs.size := by simpa using hb
        subst e
        exact I1.fpOk (Nat.le_refl _) (I1.hok.fresh (Nat.le_refl _))
    · exact False.elim h1
  · exact False.elim h1
theorem mi_range1 {a : Expr} {f1 : EM} (hg : Gl X "range") (hm : X.mg "range" = none) (ha : ME X W a f1) (hs : starEach [a] X.env = [(false, eval a X.env)] := by rfl) : MI X W tg (.Call (.Name "range" p) [a] [] pos) (iRange1 f1) := by
  refine piI (pi_range1 hg hm (ma_cons ha ma_nil (by rw [hs]; rfl)) hs) ?_
  rintro σ H Q ⟨ω, st, env, wd, re, h⟩
  refine ⟨ω, st, env, wd, re, (After.bind (Rel := RL X.K) h).mono ?_⟩
  rintro vs H1 ⟨ω1, st1, ps, e1, wd1, r1, h1⟩
  unfold pRange1 at h1
  split at h1
  · split at h1
    · rename_i j hz
      cases r1 with
      | cons ra r =>
        cases r
        cases ra
        exact ⟨j, rfl, hz.1, hz.2, h1.ok_here wd1 (.of0 itr_range)⟩
    · exact False.elim h1
  · exact False.elim h1
theorem mi_range2 {a b : Expr} {f1 f2 : EM} (hg : Gl X "range") (hm : X.mg "range" = none) (ha : ME X W a f1) (hb : ME X W b f2) (hs : starEach [a, b] X.env = [(false, eval a X.env), (false, eval b X.env)] := by rfl) (hs2 : starEach [b] X.env = [(false, eval b X.env)] := by rfl) :
    MI X W tg (.Call (.Name "range" p) [a, b] [] pos) (iRange2 f1 f2) := by
  refine piI (pi_range2 hg hm (ma_cons ha (ma_cons hb ma_nil (by rw [hs2]; rfl)) (by rw [hs, hs2])) hs hs2) ?_
  rintro σ H Q ⟨ω, st, env, wd, re, h⟩
  refine ⟨ω, st, env, wd, re, (After.bind (Rel := RL X.K) h).mono ?_⟩
  rintro vs H1 ⟨ω1, st1, ps, e1, wd1, r1, h1⟩
  unfold pRange2 at h1
  split at h1
  · split at h1
    · rename_i i j hz
      cases r1 with
      | cons ra r =>
        cases r with
        | cons rb r =>
          cases r
          cases ra
          cases rb
          exact ⟨i, j, rfl, hz, h1.ok_here wd1 (.of0 itr_range)⟩
    · exact False.elim h1
  · exact False.elim h1
theorem mi_enum {a : Expr} {f1 : EM} {elts : List Expr} {kk : Nat} {tpos : Pos} (hg : Gl X "enumerate") (hm : X.mg "enumerate" = none) (ha : ME X W a f1) (hs : starEach [a] X.env = [(false, eval a X.env)] := by rfl) :
    MI X W (.Tuple elts kk tpos) (.Call (.Name "enumerate" p) [a] [] pos) (iEnumM f1) := by
  refine ⟨fun pins s σ H R I h => ?_⟩
  obtain ⟨ω, st, env, wd, re, h⟩ := h
  have hA : tG X W (RL X.K) (aCons f1 aNil) σ H (fun vs H1 => ∃ x ω1 st1 pv, vs = [x] ∧ Ext ω H ω1 H1 ∧ Wd X.K ω1 st1 H1 ∧ Rep X.K ω1 pv x ∧ After (gd X) (wx W σ) ω1 H1 (pEnum pv st1) (RI X.K) R) := by
    refine ⟨ω, st, env, wd, re, ?_⟩
    have h : After (gd X) (wx W σ) ω H ((f1 env st).bind pEnum) (RI X.K) R := h
    show After (gd X) (wx W σ) ω H ((f1 env st).bind fun v st1 => .ok [v] st1) (RL X.K) _
    cases q : f1 env st with
    | ok v st1 =>
      rw [q] at h
      intro ω' H' vs ex w r
      cases r with
      | cons r1 r =>
        cases r
        exact ⟨_, ω', st1, v, rfl, ex, w, r1, After.shift h ex⟩
    | err n fs st1 => rw [q] at h; exact h
    | stuck => rw [q] at h; exact h
  refine Call_ (ld_blt I hg hm boot_enumerate (PyProof.Rows.callWith_type1 (thn ((ma_cons ha ma_nil (by rw [hs]; rfl)).run pos pins s σ H _ I hA) fun us s1 hh => ?_) hs rfl))
  obtain ⟨vs, H1, I1, r1, x, ω1, st1, pv, ev, e1, wd1, rp, h1⟩ := hh
  subst ev
  obtain ⟨u, rfl, ru⟩ := vals1 r1
  have ends : ∀ {a : Addr} {J : It} {tn : Nat → Heap → Prop} {h' : Heap}, (∀ b o, s1.heap.get? b = some o → h'.get? b = some o) → Turn X.prog X.w X.K (.Tuple elts kk tpos) J [s1.heap.objs.size + 1, s1.heap.objs.size] (s1.heap.objs.size + 1) tn → tn 0 h' → R J H1 →
      PIE X pins σ (.Tuple elts kk tpos) R (.ref (s1.heap.objs.size + 1)) { s1 with heap := h' } := fun {a J tn h'} hk T t0 q => by
    refine ⟨s1.heap.objs.size + 1, [s1.heap.objs.size + 1, s1.heap.objs.size], _, _, H1, rfl, I1.kept (t' := s1.toks) hk, T, t0, fun b hb => ?_, q⟩
    have e' : b = s1.heap.objs.size + 1 ∨ b = s1.heap.objs.size := by simpa using hb
    have hle : s1.heap.objs.size ≤ b := by
      rcases e' with z | z
      · rw [z]; exact Nat.le_add_right _ _
      · rw [z]; exact Nat.le_refl _
    exact I1.fpOk hle (I1.hok.fresh hle)
  unfold pEnum at h1
  split at h1
  · cases rp with
    | @tup a _ _ ea rs =>
      cases ru
      have q : R (IteT X.K _) H1 := h1.ok_here wd1 (.of0 (itr_enumT ea rs))
      have hq : SqT X.K H1 _ _ := .of (wd1.sub _ _ ea)
      obtain ⟨its, rv, p', hz⟩ := I1.tuple hq
      have hlt : a < s1.heap.objs.size := by obtain ⟨o, ho, _⟩ := p'; exact Heap.lt_size ho
      refine call_enumerate_begins (begins_tuple a its.toArray) (show s1.heap.IsTuple a its.toArray from p') fun h' he hit hsz hk => wpAny_pyIter_enum he ?_
      exact ends (a := a) hk (turn_enumT a _ _ (Nat.ne_of_lt hlt) (Nat.ne_of_gt (Nat.lt_succ_of_lt hlt))) ⟨⟨.none, he⟩, ⟨_, hit, rfl, rfl⟩, Nat.succ_ne_self _⟩ q
  · cases rp with
    | @lst a _ _ ea rs =>
      cases ru
      have q : R (Ite X.K _) H1 := h1.ok_here wd1 (.of0 (itr_enumL (.of ea) rs))
      have hq : SqL X.K H1 _ _ := .of (wd1.sub _ _ ea)
      obtain ⟨its, rv, p', hz⟩ := I1.list hq
      refine call_enumerate_list p'.isList fun h' he hit hsz hk => wpAny_pyIter_enum he ?_
      exact ends (a := a) hk (turn_enum a _ _) ⟨⟨.none, he⟩, hit, Nat.succ_ne_self _⟩ q
  · cases rp with
    | @frz a _ _ ea rs =>
      cases ru
      have q : R (Ite X.K _) H1 := h1.ok_here wd1 (.of0 (itr_enumL ea rs))
      have hq : SqL X.K H1 _ _ := wd1.sub.seq ea
      obtain ⟨its, rv, p', hz⟩ := I1.list hq
      refine call_enumerate_list p'.isList fun h' he hit hsz hk => wpAny_pyIter_enum he ?_
      exact ends (a := a) hk (turn_enum a _ _) ⟨⟨.none, he⟩, hit, Nat.succ_ne_self _⟩ q
  · exact False.elim h1
end
end PL
/-! PL, part f: built-ins and methods, by plain values. -/
namespace PL
open PySem PySem.Spec PyProof.Rows L2
def intsOf : List PV → Option (List Int)
  | [] => some []
  | .int i :: r => (intsOf r).map (i :: ·)
  | _ :: _ => none
def strsOf : List PV → Option (List Str)
  | [] => some []
  | .str i :: r => (strsOf r).map (i :: ·)
  | _ :: _ => none
theorem intsOf_map : ∀ {xs : List PV} {ns : List Int}, intsOf xs = some ns → xs = ns.map PV.int
  | [], ns, e => by cases e; rfl
  | x :: r, ns, e => by
    cases x with
    | int i =>
      unfold intsOf at e
      rw [Option.map_eq_some_iff] at e
      obtain ⟨ms, e1, e2⟩ := e
      subst e2
      rw [List.map_cons, ← intsOf_map e1]
    | _ => cases e
theorem intsOf_ints : ∀ ns : List Int, intsOf (ns.map PV.int) = some ns
  | [] => rfl
  | n :: ns => by rw [List.map_cons, intsOf, intsOf_ints ns]; rfl
theorem strsOf_map : ∀ {xs : List PV} {ns : List Str}, strsOf xs = some ns → xs = ns.map PV.str
  | [], ns, e => by cases e; rfl
  | x :: r, ns, e => by
    cases x with
    | str i =>
      unfold strsOf at e
      rw [Option.map_eq_some_iff] at e
      obtain ⟨ms, e1, e2⟩ := e
      subst e2
      rw [List.map_cons, ← strsOf_map e1]
    | _ => cases e
theorem strsOf_strs : ∀ ns : List Str, strsOf (ns.map PV.str) = some ns
  | [] => rfl
  | n :: ns => by rw [List.map_cons, strsOf, strsOf_strs ns]; rfl
section
variable {K : PySem.W.Frag} {ω : Wo}
theorem reps_ints : ∀ {ns : List Int} {ws : List V}, Reps K ω (ns.map PV.int) ws → ws = ns.map V.int
  | [], _, .nil => rfl
  | n :: ns, _, .cons r t => by cases r; rw [List.map_cons, reps_ints t]
theorem reps_strs : ∀ {ns : List Str} {ws : List V}, Reps K ω (ns.map PV.str) ws → ws = ns.map V.str
  | [], _, .nil => rfl
  | n :: ns, _, .cons r t => by cases r; rw [List.map_cons, reps_strs t]
end
/-! ### calls of one value -/
def one (p : PV → Store → Res PV) : List PV → Store → Res PV
  | [v], st => p v st
  | _, _ => .stuck
def pLen (v : PV) (st : Store) : Res PV := match v with
  | .str z => if z.length ≤ sizeLine then .ok (.int z.length) st else .stuck
  | _ => match seqOf st v with
    | some (_, xs) => .ok (.int xs.length) st
    | none => .stuck
def pInt (v : PV) (st : Store) : Res PV := match v with
  | .int i => .ok (.int i) st
  | .bl b => .ok (.int (if b then 1 else 0)) st
  | .str a => if a.length ≤ 640 then match PySem.intText? a with
    | some n => .ok (.int n) st
    | none => .stuck else .stuck
  | _ => .stuck
def strInt (i : Int) : Str := toString i
def pStr (v : PV) (st : Store) : Res PV := match v with
  | .int i => if i.natAbs.log2 < 1920 then .ok (.str (strInt i)) st else .stuck
  | _ => .stuck
def pAbs (v : PV) (st : Store) : Res PV := match v with
  | .int i => .ok (.int (if i < 0 then -i else i)) st
  | _ => .stuck
def pSum (v : PV) (st : Store) : Res PV := match seqOf st v with
  | some (false, xs) => match intsOf xs with
    | some ns => .ok (.int ns.sum) st
    | none => .stuck
  | _ => .stuck
def pMin (v : PV) (st : Store) : Res PV := match seqOf st v with
  | some (_, xs) => match intsOf xs with
    | some (n :: ns) => .ok (.int (ns.foldl min n)) st
    | _ => .stuck
  | _ => .stuck
def pMax (v : PV) (st : Store) : Res PV := match seqOf st v with
  | some (_, xs) => match intsOf xs with
    | some (n :: ns) => .ok (.int (ns.foldl max n)) st
    | _ => .stuck
  | _ => .stuck
def pTuple (v : PV) (st : Store) : Res PV := match seqOf st v with
  | some (_, xs) => .ok (.tup xs) st
  | _ => .stuck
def pList (v : PV) (st : Store) : Res PV := match seqOf st v with
  | some (_, xs) => .ok (.lst xs) st
  | _ => .stuck
/-- list(v), to be changed -/
def pListLoc (v : PV) (st : Store) : Res PV := match seqOf st v with
  | some (_, xs) => .ok (.loc st.length) (st ++ [.lst xs])
  | _ => .stuck
def SortOk (xs : List PV) : Prop := isDs xs = true ∧ (∀ d ∈ toDs xs, ∀ d' ∈ toDs xs, PySem.W.alike d d' = true) ∧ ((∀ d ∈ toDs xs, ∃ x r, d = .tuple (x :: r)) ∨ ∀ d ∈ toDs xs, d ≠ .none ∧ ∀ ys, d ≠ .tuple ys) ∧ ∀ d ∈ toDs xs, d.depth ≤ 60
open Classical in
noncomputable def pSorted (v : PV) (st : Store) : Res PV := match seqOf st v with
  | some (false, xs) => if SortOk xs then .ok (.lst (xs.mergeSort (PySem.W.dataLe false toD))) st else .stuck
  | _ => .stuck
section
variable {X : Cx}
theorem CallS.one {f : Value} {p : PV → Store → Res PV}
    (h : ∀ (pins : List (Addr × Obj)) (s : Shared) (σ : L2.St) (H : Hp) (x : V) (u : Value) (Q : VK) (E : XK) (ω : Wo) (st : Store) (a : PV), Inv X pins σ H s → RelV x u → Wd X.K ω st H → Rep X.K ω a x →
      After (gd X) E ω H (p a st) (RV X.K) Q → wpAny (model X.prog X.w) X.A (call f [u]) (EP X pins σ Q) X.xe s) : CallS X f (one p) := .mk' fun pins s σ H xs us Q E ω st as I rx wd ra q => by
  unfold PL.one at q
  split at q
  · cases ra with
    | cons r t =>
      cases t
      obtain ⟨u, rfl, ru⟩ := vals1 rx
      exact h pins s σ H _ u Q E ω st _ I ru wd r q
  · exact False.elim q
theorem vals_one {x : V} {u : Value} (r : RelV x u) : Vals [x] [u] := .cons r .nil
theorem cs_len : CallS X (.builtin "len") (one pLen) := .one fun pins s σ H x u Q E ω st a I rx wd ra h => by
  unfold pLen at h
  split at h
  · split at h
    · rename_i hz
      cases ra
      exact call_len_str pins s σ H [_] [u] Q I (vals_one rx) ⟨_, rfl, hz, h.ok_here wd (.int _)⟩
    · exact False.elim h
  · split at h
    · rename_i t xs q
      obtain ⟨p, ws, e, rs, ht⟩ := seqOf_rep wd ra q
      subst e
      have hl : (xs.length : Int) = (ws.length : Int) := by rw [rs.length]
      rw [hl] at h
      refine call_len_seq pins s σ H [_] [u] Q I (vals_one rx) ⟨p, ws, rfl, ?_, h.ok_here wd (.int _)⟩
      rcases ht with ⟨_, hq⟩ | ⟨_, hq⟩
      · exact .inr hq
      · exact .inl hq
    · exact False.elim h
theorem cs_int : CallS X (.type "int") (one pInt) := .one fun pins s σ H x u Q E ω st a I rx wd ra h => by
  unfold pInt at h
  split at h
  · cases ra
    exact call_int1 pins s σ H [_] [u] Q I (vals_one rx) (.inl ⟨_, rfl, h.ok_here wd (.int _)⟩)
  · cases ra
    exact call_int1 pins s σ H [_] [u] Q I (vals_one rx) (.inr ⟨_, rfl, h.ok_here wd (.int _)⟩)
  · split at h
    · rename_i hz
      split at h
      · rename_i n e
        cases ra
        exact call_int_str pins s σ H [_] [u] Q I (vals_one rx) ⟨_, n, rfl, e, hz, h.ok_here wd (.int _)⟩
      · exact False.elim h
    · exact False.elim h
  · exact False.elim h
theorem cs_str : CallS X (.type "str") (one pStr) := .one fun pins s σ H x u Q E ω st a I rx wd ra h => by
  unfold pStr at h
  split at h
  · split at h
    · rename_i hz
      cases ra
      exact call_str_int pins s σ H [_] [u] Q I (vals_one rx) ⟨_, rfl, hz, h.ok_here wd (.str _)⟩
    · exact False.elim h
  · exact False.elim h
theorem cs_abs : CallS X (.builtin "abs") (one pAbs) := .one fun pins s σ H x u Q E ω st a I rx wd ra h => by
  unfold pAbs at h
  split at h
  · cases ra
    exact call_abs pins s σ H [_] [u] Q I (vals_one rx) ⟨_, rfl, h.ok_here wd (.int _)⟩
  · exact False.elim h
theorem cs_sum (hc : X.calm = true) : CallS X (.builtin "sum") (one pSum) := .one fun pins s σ H x u Q E ω st a I rx wd ra h => by
  unfold pSum at h
  split at h
  · rename_i xs q
    split at h
    · rename_i ns e
      obtain ⟨p, ws, e1, rs, ht⟩ := seqOf_rep wd ra q
      subst e1
      rw [intsOf_map e] at rs
      have e2 := reps_ints rs
      subst e2
      rcases ht with ⟨z, _⟩ | ⟨_, hq⟩
      · cases z
      · exact cr_sum hc pins s σ H [_] [u] Q I (vals_one rx) ⟨p, ns, rfl, hq, h.ok_here wd (.int _)⟩
    · exact False.elim h
  · exact False.elim h
theorem depth_ints0 (ns : List Int) : PyData.depthAll (ns.map .int) = 0 := PySem.W.depth_ints ns
theorem dpAll_ints {H : Hp} : ∀ ns : List Int, DpAll X.K H (ns.map V.int) (ns.map PyData.int)
  | [] => .nil
  | n :: ns => .cons (.int n) (dpAll_ints ns)
theorem alike_ints (n : Int) (ns : List Int) : PySem.W.AlikeAll (PyData.int n :: ns.map PyData.int) := by
  refine ⟨fun x hx y hy => ?_, fun x hx => ?_⟩
  · have e : ∀ z ∈ (PyData.int n :: ns.map PyData.int), ∃ k, z = .int k := fun z hz => by
      rcases List.mem_cons.mp hz with e | hz
      · exact ⟨_, e⟩
      · obtain ⟨k, _, rfl⟩ := List.mem_map.mp hz
        exact ⟨k, rfl⟩
    obtain ⟨a, rfl⟩ := e x hx
    obtain ⟨b, rfl⟩ := e y hy
    rfl
  · rcases List.mem_cons.mp hx with e | hx
    · rw [e]; intro z; cases z
    · obtain ⟨k, _, rfl⟩ := List.mem_map.mp hx
      intro z; cases z
theorem reads_int {h : Heap} {v : Value} {m : Int} {bs : List Addr} (r : Reads h v (.int m) bs) : ∃ t, v = .int m t := by
  cases r
  exact ⟨_, rfl⟩
theorem cs_min (hc : X.calm = true) (hu : X.A.units + 64 < cLine) : CallS X (.builtin "min") (one pMin) := .one fun pins s σ H x u Q E ω st a I rx wd ra h => by
  unfold pMin at h
  split at h
  · rename_i t xs q
    split at h
    · rename_i n ns e
      obtain ⟨p, ws, e1, rs, ht⟩ := seqOf_rep wd ra q
      subst e1
      rw [intsOf_map e] at rs
      have e2 := reps_ints rs
      subst e2
      cases rx
      have hd : X.A.units + 1 + PyData.depthAll (PyData.int n :: ns.map PyData.int) < cLine := by
        have e : PyData.depthAll (PyData.int n :: ns.map PyData.int) = 0 := depth_ints0 (n :: ns)
        rw [e]; omega
      have fin : ∀ (i : Nat) v h' tk bs, Reads h' v (PySem.W.minD (.int n) (ns.map .int)) bs → (∀ b o, s.heap.get? b = some o → h'.get? b = some o) → EP X pins σ Q v { s with heap := h', toks := tk } := fun i v h' tk bs r hk => by
        rw [PySem.W.minD_ints] at r
        obtain ⟨t, rfl⟩ := reads_int r
        exact ⟨.int _, H, I.kept hk, ⟨_, rfl⟩, h.ok_here wd (.int _)⟩
      rcases ht with ⟨_, hq⟩ | ⟨_, hq⟩
      · obtain ⟨its, rv, hl, _⟩ := I.tuple hq
        obtain ⟨as, hr⟩ := Dp.readsAll I _ _ _ (dpAll_ints (n :: ns)) rv
        exact PySem.W.min_tuple_data (I.ok.hd hc) (show s.heap.IsTuple p its.toArray from hl) (as := as) (by simpa using hr) (alike_ints n ns) hd fun i v h' tk bs _ r hk => fin i v h' tk bs r hk
      · obtain ⟨its, rv, hl, _⟩ := I.list hq
        obtain ⟨as, hr⟩ := Dp.readsAll I _ _ _ (dpAll_ints (n :: ns)) rv
        exact PySem.W.min_list_data (I.ok.hd hc) hl.isList (as := as) (by simpa using hr) (alike_ints n ns) hd fun i v h' tk bs _ r hk => fin i v h' tk bs r hk
    · exact False.elim h
  · exact False.elim h
theorem cs_max (hc : X.calm = true) (hu : X.A.units + 64 < cLine) : CallS X (.builtin "max") (one pMax) := .one fun pins s σ H x u Q E ω st a I rx wd ra h => by
  unfold pMax at h
  split at h
  · rename_i t xs q
    split at h
    · rename_i n ns e
      obtain ⟨p, ws, e1, rs, ht⟩ := seqOf_rep wd ra q
      subst e1
      rw [intsOf_map e] at rs
      have e2 := reps_ints rs
      subst e2
      cases rx
      have hd : X.A.units + 1 + PyData.depthAll (PyData.int n :: ns.map PyData.int) < cLine := by
        have e : PyData.depthAll (PyData.int n :: ns.map PyData.int) = 0 := depth_ints0 (n :: ns)
        rw [e]; omega
      have fin : ∀ (i : Nat) v h' tk bs, Reads h' v (PySem.W.maxD (.int n) (ns.map .int)) bs → (∀ b o, s.heap.get? b = some o → h'.get? b = some o) → EP X pins σ Q v { s with heap := h', toks := tk } := fun i v h' tk bs r hk => by
        rw [PySem.W.maxD_ints] at r
        obtain ⟨t, rfl⟩ := reads_int r
        exact ⟨.int _, H, I.kept hk, ⟨_, rfl⟩, h.ok_here wd (.int _)⟩
      rcases ht with ⟨_, hq⟩ | ⟨_, hq⟩
      · obtain ⟨its, rv, hl, _⟩ := I.tuple hq
        obtain ⟨as, hr⟩ := Dp.readsAll I _ _ _ (dpAll_ints (n :: ns)) rv
        exact PySem.W.max_tuple_data (I.ok.hd hc) (show s.heap.IsTuple p its.toArray from hl) (as := as) (by simpa using hr) (alike_ints n ns) hd fun i v h' tk bs _ r hk => fin i v h' tk bs r hk
      · obtain ⟨its, rv, hl, _⟩ := I.list hq
        obtain ⟨as, hr⟩ := Dp.readsAll I _ _ _ (dpAll_ints (n :: ns)) rv
        exact PySem.W.max_list_data (I.ok.hd hc) hl.isList (as := as) (by simpa using hr) (alike_ints n ns) hd fun i v h' tk bs _ r hk => fin i v h' tk bs r hk
    · exact False.elim h
  · exact False.elim h
theorem cs_tuple : CallS X (.type "tuple") (one pTuple) := .one fun pins s σ H x u Q E ω st a I rx wd ra h => by
  unfold pTuple at h
  split at h
  · rename_i t xs q
    obtain ⟨p, ws, e, rs, ht⟩ := seqOf_rep wd ra q
    subst e
    rcases ht with ⟨e, hq⟩ | ⟨_, hq⟩
    · subst e
      refine call_tuple_of pins s σ H [_] [u] Q I (vals_one rx) ⟨p, ws, rfl, .inr ⟨hq, ?_⟩⟩
      cases ra with
      | tup ea r1 =>
        cases q
        exact h.ok_here wd (.tup ea r1)
      | loc ea =>
        unfold seqOf at q
        simp only at q
        split at q <;> cases q
      | _ => cases q
    · exact call_tuple_of pins s σ H [_] [u] Q I (vals_one rx) ⟨p, ws, rfl, .inl ⟨hq, new_tup wd rs h⟩⟩
  · exact False.elim h
theorem cs_list : CallS X (.type "list") (one pList) := .one fun pins s σ H x u Q E ω st a I rx wd ra h => by
  unfold pList at h
  split at h
  · rename_i t xs q
    obtain ⟨p, ws, e, rs, ht⟩ := seqOf_rep wd ra q
    subst e
    exact call_list_of pins s σ H [_] [u] Q I (vals_one rx) ⟨p, ws, rfl, ht.elim (fun z => .inr z.2) (fun z => .inl z.2), new_lst wd rs h⟩
  · exact False.elim h
theorem cs_listLoc : CallS X (.type "list") (one pListLoc) := .one fun pins s σ H x u Q E ω st a I rx wd ra h => by
  unfold pListLoc at h
  split at h
  · rename_i t xs q
    obtain ⟨p, ws, e, rs, ht⟩ := seqOf_rep wd ra q
    subst e
    exact call_list_of pins s σ H [_] [u] Q I (vals_one rx) ⟨p, ws, rfl, ht.elim (fun z => .inr z.2) (fun z => .inl z.2), new_loc wd rs h⟩
  · exact False.elim h
/-- items that stand for plain values -/
def Stands (K : PySem.W.Frag) (ω : Wo) (u : Value) (v : PV) : Prop := ∃ x, RelV x u ∧ Rep K ω v x
theorem each_of {ω : Wo} : ∀ {ws : List V} {us : List Value} {xs : List PV}, Vals ws us → Reps X.K ω xs ws → PySem.W.EachIs (Stands X.K ω) us xs
  | _, _, _, .nil, .nil => .nil
  | _, _, _, .cons r t, .cons r' t' => .cons ⟨_, r, r'⟩ (each_of t t')
theorem each_back {ω : Wo} : ∀ {us : List Value} {xs : List PV}, PySem.W.EachIs (Stands X.K ω) us xs → ∃ ws, Vals ws us ∧ Reps X.K ω xs ws
  | _, _, .nil => ⟨[], .nil, .nil⟩
  | _, _, .cons ⟨x, r1, r2⟩ t => let ⟨ws, h1, h2⟩ := each_back t; ⟨x :: ws, .cons r1 h1, .cons r2 h2⟩
theorem each_reads {pins : List (Addr × Obj)} {s : Shared} {σ : L2.St} {H : Hp} {ω : Wo} {st : Store} (I : Inv X pins σ H s) (wd : Wd X.K ω st H) : ∀ {us : List Value} {xs : List PV}, PySem.W.EachIs (Stands X.K ω) us xs → isDs xs = true → PySem.W.EachIs (fun v b => ∃ as, Reads s.heap v (toD b) as) us xs
  | _, _, .nil, _ => .nil
  | _, _, .cons ⟨x, r1, r2⟩ t, d => by
    simp only [isDs, Bool.and_eq_true] at d
    exact .cons (r2.reads I wd d.1 r1) (each_reads I wd t d.2)
theorem cs_sorted (hu : X.A.units + 64 < cLine) : CallS X (.builtin "sorted") (one pSorted) := .one fun pins s σ H x u Q E ω st a I rx wd ra h => by
  unfold pSorted at h
  split at h
  · rename_i xs q
    split at h
    · rename_i hz
      obtain ⟨h1, h2, h3, h4⟩ := hz
      obtain ⟨p, ws, e, rs, ht⟩ := seqOf_rep wd ra q
      subst e
      cases rx
      rcases ht with ⟨z, _⟩ | ⟨_, hq⟩
      · cases z
      · obtain ⟨its, rv, hl, hz⟩ := I.list hq
        have ei := each_of rv rs
        rw [toDs_map] at h2 h3 h4
        refine PySem.W.sorted_data (R := Stands X.K ω) (enc := toD) hl.isList ei (each_reads I wd ei h1) h2 h3 (by rw [rs.length]; exact hz) (fun b hb => ?_) fun out ho hr => ?_
        · have := h4 _ (List.mem_map.mpr ⟨b, hb, rfl⟩)
          omega
        · obtain ⟨os, v1, v2⟩ := each_back hr
          obtain ⟨ep, he'⟩ := PyProof.Rows.sortedAll_at s.heap its out.toArray
          refine ⟨.ref _, upd H (s.heap.objs.size + 1) (.lst os), I.laid (t' := s.toks) (fun _ _ => PyProof.Rows.sortedAll_old) (Nat.le_succ _) ⟨?_, out, ep, v1, he'⟩, rfl, new_lst wd v2 h _ (I.hok.fresh (Nat.le_succ _))⟩
          rw [v1.length, ho, rs.length]
          exact hz
    · exact False.elim h
  · exact False.elim h
end
/-! ### isinstance -/
def tyName (st : Store) : PV → Option String
  | .non => some "NoneType"
  | .bl _ => some "bool"
  | .int _ => some "int"
  | .str _ => some "str"
  | .tup _ => some "tuple"
  | .lst _ => some "list"
  | .frz _ => some "list"
  | .loc l => match st[l]? with
    | some (.lst _) => some "list"
    | none => none
  | .con _ => none
  | .exc _ _ _ _ => none
def kitAll (t : String) : List PV → Option Bool
  | [] => some false
  | .con (.ty n) :: r => match kitB t n with
    | some true => some true
    | some false => kitAll t r
    | none => none
  | _ :: _ => none
def allTys : List PV → Bool
  | [] => true
  | .con (.ty _) :: r => allTys r
  | _ :: _ => false
def pIsi (vs : List PV) (st : Store) : Res PV := match vs with
  | [v, .con (.ty n)] => match tyName st v with
    | some t => match kitB t n with
      | some b => .ok (.bl b) st
      | none => .stuck
    | none => .stuck
  | [v, .tup cs] => match tyName st v with
    | some t => match kitAll t cs with
      | some b => if allTys cs = true then .ok (.bl b) st else .stuck
      | none => .stuck
    | none => .stuck
  | _ => .stuck
section
variable {X : Cx} {ω : Wo} {st : Store} {H : Hp}
theorem tyx_of (wd : Wd X.K ω st H) {v : PV} {x : V} (r : Rep X.K ω v x) {t : String} (e : tyName st v = some t) : TyX X.K H x (.type t) := by
  cases r with
  | non => cases e; exact .base .non
  | bl b => cases e; exact .base (.bl b)
  | int b => cases e; exact .base (.int b)
  | str b => cases e; exact .base (.str b)
  | tup ea rs => cases e; exact .base (.tup (wd.sub _ _ ea))
  | lst ea rs => cases e; exact .base (.lst (wd.sub _ _ ea))
  | frz ea rs =>
    cases e
    rcases ea with (ea | ⟨o, ea⟩) | ⟨o, its, n, hk, hc, _⟩
    · exact .base (.lst (wd.sub _ _ ea))
    · exact .base (.frz (wd.sub _ _ ea))
    · exact .kList hk hc
  | loc ea =>
    unfold tyName at e
    simp only at e
    split at e
    · rename_i q
      cases e
      obtain ⟨vs, h, _⟩ := wd.obj _ _ _ ea q
      exact .base (.lst h)
    · cases e
  | con v => cases e
  | exc _ _ _ => cases e
theorem tys_of : ∀ {cs : List PV} {ws : List V}, Reps X.K ω cs ws → allTys cs = true → ∃ us, Paired ClsV ws us ∧ ∀ {t : String} {b : Bool}, kitAll t cs = some b → PySem.W.kitAny X.K (.type t) us = some b
  | _, _, .nil, _ => ⟨[], .nil, fun e => by cases e; rfl⟩
  | c :: cs, _, .cons r t, h => by
    cases c with
    | con v =>
      cases v with
      | ty n =>
        obtain ⟨us, h1, h2⟩ := tys_of t (show allTys cs = true from h)
        cases r
        refine ⟨.type n :: us, .cons (.ty n) h1, fun {t b} e => ?_⟩
        unfold kitAll at e
        cases q : kitB t n with
        | none => rw [q] at e; cases e
        | some k =>
          rw [q] at e
          refine kitAny_cons (b := k) (kit_ty q) (fun z => ?_) (fun z => ?_)
          · subst z; exact h2 e
          · subst z; cases e; rfl
      | _ => cases h
    | _ => cases h
theorem cs_isi : CallS X (.builtin "isinstance") pIsi := .mk' fun pins s σ H xs us Q E ω st as I rx wd ra h => by
  unfold pIsi at h
  split at h
  · rename_i v n
    cases ra with
    | cons r1 ra =>
      cases ra with
      | cons r2 ra =>
        cases ra
        cases r2
        split at h
        · rename_i t e
          split at h
          · rename_i b k
            exact call_isi pins s σ H _ us Q I rx ⟨_, _, _, _, b, rfl, .ty n, tyx_of wd r1 e, kit_ty k, h.ok_here wd (.bl b)⟩
          · exact False.elim h
        · exact False.elim h
  · rename_i v cs
    cases ra with
    | cons r1 ra =>
      cases ra with
      | cons r2 ra =>
        cases ra
        cases r2 with
        | tup ea rs =>
          split at h
          · rename_i t e
            split at h
            · rename_i b k
              split at h
              · rename_i ht
                obtain ⟨ws, p1, p2⟩ := tys_of rs ht
                exact call_isiT pins s σ H _ us Q I rx ⟨_, _, _, _, ws, b, rfl, wd.sub _ _ ea, p1, tyx_of wd r1 e, p2 k, h.ok_here wd (.bl b)⟩
              · exact False.elim h
            · exact False.elim h
          · exact False.elim h
  · exact False.elim h
def pGcd (vs : List PV) (st : Store) : Res PV := match vs with
  | [.int a, .int b] => .ok (.int ((Nat.gcd a.natAbs b.natAbs : Nat) : Int)) st
  | _ => .stuck
theorem cs_gcd : CallS X (.builtin "math.gcd") pGcd := .mk' fun pins s σ H xs us Q E ω st as I rx wd ra h => by
  unfold pGcd at h
  split at h
  · cases ra with
    | cons r1 ra =>
      cases ra with
      | cons r2 ra =>
        cases ra
        cases r1
        cases r2
        exact cr_gcd pins s σ H _ us Q I rx ⟨_, _, rfl, h.ok_here wd (.int _)⟩
  · exact False.elim h
end
/-! ### methods -/
def isListP (v : PV) (st : Store) : Bool := match v with
  | .loc l => match st[l]? with
    | some (.lst _) => true
    | none => false
  | _ => false
def pAppend (v : PV) (vs : List PV) (st : Store) : Res PV := match v, vs with
  | .loc l, [y] => match st[l]? with
    | some (.lst xs) => if xs.length < sizeLine then .ok .non (st.set l (.lst (xs ++ [y]))) else .stuck
    | none => .stuck
  | _, _ => .stuck
def isStrP (v : PV) (_ : Store) : Bool := match v with
  | .str _ => true
  | _ => false
def pJoin (v : PV) (vs : List PV) (st : Store) : Res PV := match v, vs with
  | .str a, [w] => match seqOf st w with
    | some (_, xs) => match strsOf xs with
      | some ys => if (ys.map (·.length)).sum + ys.length * a.length ≤ 16777216 then .ok (.str (Txt.join a ys)) st else .stuck
      | none => .stuck
    | none => .stuck
  | _, _ => .stuck
def pBits (v : PV) (st : Store) : Res PV := match v with
  | .int i => .ok (.int (Builtin.Int.intBits i : Nat)) st
  | _ => .stuck
section
variable {X : Cx}
theorem mts_append : MtS X "list" "list.append" isListP pAppend := by
  refine ⟨rAppend, mt_append, fun ω st H v x wd r h => ?_, fun E ω st H v x vs xs Q wd rv rs h => ?_⟩
  · unfold isListP at h
    split at h
    · split at h
      · rename_i q
        cases r with
        | loc ea =>
          obtain ⟨ws, e, _⟩ := wd.obj _ _ _ ea q
          exact .inl ⟨rfl, _, .of e⟩
      · cases h
    · cases h
  · unfold pAppend at h
    split at h
    · split at h
      · rename_i q
        split at h
        · rename_i hz
          cases rv with
          | loc ea =>
            cases rs with
            | cons ry t =>
              cases t
              obtain ⟨ws, e, rw'⟩ := wd.obj _ _ _ ea q
              obtain ⟨w, ex⟩ := wd.wr ea (rw'.append (Reps.one ry))
              exact ⟨_, ws, _, rfl, rfl, e, by rw [← rw'.length]; exact hz, h _ _ _ ex w .non⟩
        · exact False.elim h
      · exact False.elim h
    · exact False.elim h
theorem mts_join : MtS X "str" "str.join" isStrP pJoin := by
  refine ⟨_, mt_join, fun ω st H v x wd r h => ?_, fun E ω st H v x vs xs Q wd rv rs h => ?_⟩
  · unfold isStrP at h
    split at h
    · cases r
      rfl
    · cases h
  · unfold pJoin at h
    split at h
    · split at h
      · rename_i t xs q
        split at h
        · rename_i ys e
          split at h
          · rename_i hz
            cases rv
            cases rs with
            | cons ry tl =>
              cases tl
              obtain ⟨p, ws, e1, r1, ht⟩ := seqOf_rep wd ry q
              subst e1
              rw [strsOf_map e] at r1
              have e2 := reps_strs r1
              subst e2
              refine ⟨_, p, ys, rfl, rfl, ?_, hz, h.ok_here wd (.str _)⟩
              rcases ht with ⟨_, hq⟩ | ⟨_, hq⟩
              · exact .inr hq
              · exact .inl hq
          · exact False.elim h
        · exact False.elim h
      · exact False.elim h
    · exact False.elim h
theorem me_bits {W : WX} {o : Expr} {fo : EM} {apos pos : Pos} (ho : ME X W o fo) (hbase : attributeBase o "bit_length" X.env (eval o X.env) = eval o X.env := by rfl) (hline : (apos.endLine == pos.line) = true := by rfl) :
    ME X W (.Call (.Attribute o "bit_length" apos) [] [] pos) (eUn pBits fo) := by
  refine peI (pe_bits ho hbase hline) ?_
  rintro σ H Q ⟨ω, st, env, wd, re, h⟩
  refine ⟨ω, st, env, wd, re, (After.bind (Rel := RV X.K) h).mono ?_⟩
  rintro x H1 ⟨ω1, st1, v, e1, wd1, r1, h1⟩
  unfold pBits at h1
  split at h1
  · cases r1
    exact ⟨_, rfl, h1.ok_here wd1 (.int _)⟩
  · exact False.elim h1
theorem sts_set : StS X pSet := by
  refine ⟨_, set_list, fun E ω st H o i v xo xi x Q wd ro ri rv h => ?_⟩
  unfold pSet at h
  split at h
  · split at h
    · rename_i q
      split at h
      · rename_i j hj
        cases ro with
        | loc ea =>
          cases ri
          obtain ⟨ws, e, rw'⟩ := wd.obj _ _ _ ea q
          obtain ⟨w, ex⟩ := wd.wr ea (rw'.set j rv)
          exact ⟨_, ws, _, j, rfl, rfl, e, by rw [← rw'.length]; exact hj, h _ _ () ex w trivial⟩
      · exact False.elim h
    · exact False.elim h
  · exact False.elim h
end
end PL
/-! PL, part g: defs of the text by name. -/
namespace PL
open PySem PySem.Spec PyProof.Rows L2
/-- the def x stands at the module's name x, with the text st -/
structure DefOf (K : PySem.W.Frag) (mg : Str → Option Value) (x : Str) (st : Stmt) (ps : List Str) : Prop where
  ex : ∃ f fd, Fun K x x st f fd ∧ mg x = some (.ref f) ∧ Binds K fd ps []
/-- the function object at f -/
def FdAt (K : PySem.W.Frag) (f : Addr) (fd : FuncData) : Prop := ∃ oc od sl, K.lookup f = some ⟨oc, od, .func fd, sl⟩
theorem FdAt.of {K : PySem.W.Frag} {x qual : Str} {st : Stmt} {f : Addr} {fd : FuncData} (F : Fun K x qual st f fd) : FdAt K f fd := by
  obtain ⟨oc, od, kV, doc, pm, an, cdv, ct, osl, e, lk, hcd⟩ := F.ex
  exact ⟨oc, od, osl, lk⟩
theorem FdAt.inj {K : PySem.W.Frag} {f : Addr} {fd fd' : FuncData} (h : FdAt K f fd) (h' : FdAt K f fd') : fd = fd' := by
  obtain ⟨_, _, _, e⟩ := h
  obtain ⟨_, _, _, e'⟩ := h'
  rw [e] at e'
  cases e'
  rfl
/-- the def x is worth the plain function m -/
structure Has (P : Program) (w : World) (K : PySem.W.Frag) (mg : Str → Option Value) (base : Heap) (x : Str) (ps : List Str) (k : Nat) (m : List PV → Store → Res PV) : Prop where
  ex : ∃ f fd, FnOk P w K mg base CX0 k f fd ps (spP ⟨K, mg⟩ ps.length (nE m)) ∧ mg x = some (.ref f) ∧ PySem.W.keepIn K (.ref f) = true ∧ Binds K fd ps [] ∧ FdAt K f fd
section
variable {P : Program} {w : World} {K : PySem.W.Frag} {mg : Str → Option Value} {base : Heap} {x : Str} {st : Stmt} {N ps : List Str} {k n : Nat}
theorem has_of {fm : SM} (d : DefOf K mg x st ps) (S : FnScope N ps (defScope st))
    (hbody : ∀ {f : Addr} (cdv : Value) (A : Around) (outer : List Env) (s : Shared) (H : Hp) (E : XK), Room k (A.deeper (envOfC x (defScope st) s.heap.objs.size f cdv)) →
      MB (cxOf CX0 P w K mg base N x (defScope st) f cdv A outer s H E).nox W0 (defBody st) fm) : Has P w K mg base x ps (k + 1) (runBody N.length fm) := by
  obtain ⟨f, fd, F, hm, hb⟩ := d.ex
  exact ⟨f, fd, okP F S fun cdv A outer s H E hr => hbody cdv A outer s H E hr, hm, F.kp, hb, .of F⟩
theorem has_rec {body : (List PV → Store → Res PV) → SM} (d : DefOf K mg x st ps) (S : FnScope N ps (defScope st)) (hk : 1 ≤ k)
    (hbody : ∀ {f : Addr} (n : Nat), Has P w K mg base x ps (k + n) (fuelF N.length body n) → ∀ (cdv : Value) (A : Around) (outer : List Env) (s : Shared) (H : Hp) (E : XK), Room (k + n) (A.deeper (envOfC x (defScope st) s.heap.objs.size f cdv)) →
      MB (cxOf CX0 P w K mg base N x (defScope st) f cdv A outer s H E).nox W0 (defBody st) (body (fuelF N.length body n))) : Has P w K mg base x ps (k + n) (fuelF N.length body n) := by
  obtain ⟨f, fd, F, hm, hb⟩ := d.ex
  exact ⟨f, fd, okP_rec F S hk (fun n h cdv A outer s H E hr => hbody n ⟨f, fd, h, hm, F.kp, hb, .of F⟩ cdv A outer s H E hr) n, hm, F.kp, hb, .of F⟩
end
section
variable {X : Cx} {W : WX} {x : Str} {p pos : Pos} {e : Expr} {es : List Expr} {fs : AM} {ps : List Str} {k : Nat} {m : List PV → Store → Res PV}
theorem me_callH {n : Nat} (h : Has X.prog X.w X.K X.mg X.base x ps k m) (hr : Room k X.A) (ha : MA X W (e :: es) fs) (hn : ps.length = n := by rfl) (hg : Gl X x := by rfl) (hdb : (x == ("__debug__" : Str)) = false := by decide)
    (he : starEach (e :: es) X.env = (false, eval e X.env) :: starEach es X.env := by rfl) (hpl : (backTo pos (starEach es X.env)).any (·.1) = false := by rfl) :
    ME X W (.Call (.Name x p) (e :: es) [] pos) (eCall n m fs) := by
  subst hn
  obtain ⟨f, fd, F, hm, hk, hb, _⟩ := h.ex
  exact me_call F hr hg hm hk hb ha hdb he hpl
end
theorem bb_len : bootBuiltins "len" = some (.builtin "len") := by decide +kernel
theorem bb_abs : bootBuiltins "abs" = some (.builtin "abs") := by decide +kernel
theorem bb_sum : bootBuiltins "sum" = some (.builtin "sum") := by decide +kernel
theorem bb_min : bootBuiltins "min" = some (.builtin "min") := by decide +kernel
theorem bb_max : bootBuiltins "max" = some (.builtin "max") := by decide +kernel
theorem bb_sorted : bootBuiltins "sorted" = some (.builtin "sorted") := by decide +kernel
theorem bb_isinstance : bootBuiltins "isinstance" = some (.builtin "isinstance") := by decide +kernel
theorem bt_int : bootBuiltins "int" = some (.type "int") := by decide +kernel
theorem bt_str : bootBuiltins "str" = some (.type "str") := by decide +kernel
theorem bt_bool : bootBuiltins "bool" = some (.type "bool") := by decide +kernel
theorem bt_tuple : bootBuiltins "tuple" = some (.type "tuple") := by decide +kernel
theorem bt_list : bootBuiltins "list" = some (.type "list") := by decide +kernel
theorem bt_dict : bootBuiltins "dict" = some (.type "dict") := by decide +kernel
end PL
/-! PL, part xb: the __init__ of an own error class over ValueError: super().__init__('..'); self.f = f -/
namespace PLX
open PySem PySem.W PySem.Calls PySem.Spec PyProof.Rows PySem.HandSPX
def iA (f : Str) (p1 p2 : Pos) : Arguments := { posonlyargs := [], args := [{ arg := "self", annotation := none, pos := p1 }, { arg := f, annotation := none, pos := p2 }], vararg := none, kwonlyargs := [], kw_defaults := [], kwarg := none, defaults := [] }
def iB (f msg : Str) (j : Nat) (a1 a2 a3 a4 a5 a6 q1 q2 q3 q4 : Pos) : List Stmt :=
  [.Expr (.Call (.Attribute (.Call (.Name "super" a1) [] [] a2) "__init__" a3) [.Constant (.str msg) j a4] [] a5) a6, .Assign [.Attribute (.Name "self" q1) f q2] (.Name f q3) q4]
def iS (f : Str) : Scope := { kind := .function, names := [(PySem.Str.ofString "self", .local), (f, .local), (PySem.Str.ofString "__class__", .free), (PySem.Str.ofString "super", .globalImplicit)], isGenerator := false, isCoroutine := false, more := [] }
/-- a field's name that is none of the text's other names -/
structure FldOk (f : Str) : Prop where
  lf : (iS f).names.lookup f = some .local
  lc : (iS f).names.lookup ("__class__" : Str) = some .free
  ls : (iS f).names.lookup ("super" : Str) = some .globalImplicit
  b1 : ∀ (x : Addr) (v : Value), ([(("self" : Str), Value.ref x), (f, v)] : List (Str × Value)).reverse.lookup ("self" : Str) = some (.ref x)
  b2 : ∀ (x : Addr) (v : Value), ([(("self" : Str), Value.ref x), (f, v)] : List (Str × Value)).reverse.lookup f = some v
  db : (f == ("__debug__" : Str)) = false
  bd : ∀ (s : Shared) (q : Str) (p1 p2 : Pos) (body : List Stmt) (doc pm : Value) (an : Option Addr) (cd ct : Value) (cc : Addr) (a v : Value),
    BindsTo s (ksFn "__init__" q (iA f p1 p2) body (iS f) .none .none doc pm an cd ct cc) ⟨[a, v], []⟩ [("self", a), (f, v)]
/-- where the pieces of the line super().__init__('..') stand -/
def SupOk (f qual msg : Str) (j : Nat) (a1 a2 a3 a4 a5 a6 : Pos) : Prop :=
  ∃ pl : Sem Bool, ∀ (L fI : Addr) (cd : Value) (cc : Addr), eval (.Call (.Attribute (.Call (.Name "super" a1) [] [] a2) "__init__" a3) [.Constant (.str msg) j a4] [] a5) (ksEnv qual (iS f) L fI cd cc) = (do
      let ov ← attributeBase (.Call (.Name "super" a1) [] [] a2) "__init__" (ksEnv qual (iS f) L fI cd cc) (eval (.Call (.Name "super" a1) [] [] a2) (ksEnv qual (iS f) L fI cd cc))
      standAt a3.atName
      let (g, first) ← holding [ov] (getMethod ov "__init__" pl)
      callWith a5 g first (backTo a5 (starEach [.Constant (.str msg) j a4] (ksEnv qual (iS f) L fI cd cc))) []) ∧
    swapsWith (.Call (.Attribute (.Call (.Name "super" a1) [] [] a2) "__init__" a3) [.Constant (.str msg) j a4] [] a5) none a6.line (ksEnv qual (iS f) L fI cd cc) = pure false
/-- what the written part says of the class at C and of its __init__, at fI -/
structure XTxt (prog : Program) (K : Frag) (mg : Str → Option Value) (x : Str) (C fI : Addr) (f qual : Str) : Prop where
  gC : mg x = some (.ref C)
  cls : ∃ nm q N bs bm sn sub ab col dd k0 k1 k2 k3 k5, K.lookup C = some (excClassObj nm q C N bs bm true sn sub ab col dd k0 k1 k2 k3 k5 "ValueError.__new__") ∧ refsVE bm = true
  sa : findIn K (.ref C) "__setattr__" = some (some (.builtin "object.__setattr__"))
  ga : findIn K (.ref C) "__getattribute__" = some (some (.builtin "BaseException.__getattribute__"))
  gg : findIn K (.ref C) "__getattr__" = some none
  noN : findIn K (.ref C) f = some none
  iC : findIn K (.ref C) "__init__" = some (some (.ref fI))
  tC : typeIn K (.ref fI) = some (.type "function")
  kC : keepIn K (.ref C) = true
  exC : subIn K (.ref C) (.type "BaseException") = some true
  tyC : typeIn K (.ref C) = some (.type "type")
  hdC : hasDictIn K C = true
  mC : mroIn K C (.ref C) = some true
  su : mg "super" = none
  ho : nsIn K cStatics "thirdparty.any" = some none
  hm : ks_superIn K C C "__init__" = some (some (.builtin "ValueError.__init__"))
  hB : subIn K (.ref C) (.type "ValueError") = some true
  top : (prog.main.scope.names.lookup ("super" : Str)).isSome = false
  fok : FldOk f
  fn : ∃ (oc : Value) (od : Option Addr) (doc pm : Value) (an : Option Addr) (cda cc : Addr) (ct : Value) (osl : Array (Option Value)) (ccl : Value) (cdd : Option Addr) (vs : Array Value) (ccs : Array (Option Value)) (cl : Value) (cld : Option Addr) (csl : Array (Option Value)) (file : Str) (tf : Tok)
    (p1 p2 a1 a2 a3 a4 a5 a6 q1 q2 q3 q4 : Pos) (msg : Str) (j : Nat), SupOk f qual msg j a1 a2 a3 a4 a5 a6 ∧
    K.lookup fI = some ⟨oc, od, .func (ksFn "__init__" qual (iA f p1 p2) (iB f msg j a1 a2 a3 a4 a5 a6 q1 q2 q3 q4) (iS f) .none .none doc pm an (.ref cda) ct cc), osl⟩ ∧ codeIn K (.ref cda) qual = true ∧
    K.lookup cda = some ⟨ccl, cdd, .fields vs, ccs⟩ ∧ vs[2]? = some (.str file tf) ∧ ((prog.main.file : Str) == file) = true ∧ K.lookup cc = some ⟨cl, cld, .cell (some (.ref C)), csl⟩
/-- what __init__ leaves of a fresh exception at x -/
structure InitEnd (h h' : Heap) (x C dx : Addr) (f : Str) (v : Value) : Prop where
  keep : ∀ b o, b ≠ x → h.get? b = some o → h'.get? b = some o
  obj : ∃ t1, h'.get? x = some { cls := .ref C, dict := some dx, data := .fields #[.ref t1, .none, .none, .none, .bool false, .none] }
  dbig : h.objs.size ≤ dx
  dne : dx ≠ x
  ns : h'.Ns1 dx (fun y => if y = f then some v else none)
section
variable {prog : Program} {w : World} {A : Around} {R : Result → Shared → Prop} {s : Shared} {K : Frag} {mg mb : Str → Option Value} {C fI : Addr} {x : Str} {f qual : Str}
theorem x_init (T : XTxt prog K mg x C fI f qual) {e t0 : Addr} {v : Value} (X : K.In s.heap) (hg : s.heap.Ns mainGlobals mg) (hb : s.heap.Ns builtinsNs mb) (hbs : mb "super" = some (.type "super")) (hlim : s.heap.NoLimit)
    (hx : s.heap.get? e = some (excO C t0)) (hnx : K.lookup e = none) (hroom : A.depth < recursionLimit)
    (hq : ∀ h' tk dx, InitEnd s.heap h' e C dx f v → R (.ok (.ret .none)) { s with heap := h', toks := tk }) :
    codeAny (model prog w) A (.call (.ref fI) ⟨[.ref e, v], []⟩) R s := by
  obtain ⟨oc, od, doc, pm, an, cda, cc, ct, osl, ccl, cdd, vs, ccs, cl, cld, csl, file, tf, p1, p2, a1, a2, a3, a4, a5, a6, q1, q2, q3, q4, msg, j, ⟨pl, hsu⟩, lf, hcd, lcd, hvs, hfile, lcc⟩ := T.fn
  obtain ⟨nm, q, N, bs, bm, sn, sub, ab, col, dd, k0, k1, k2, k3, k5, hC, hbm⟩ := T.cls
  have hcl : clsIn K C = some { name := nm, bases := bs, mro := .ref C :: bm, ns := N, qualname := q, hasDict := true, slotNames := sn, subclasses := sub, abstract := ab, collection := col, hasDel := false } := by unfold clsIn; rw [hC] <;> rfl
  refine ks_codeAny_call_defAt (fd := ksFn "__init__" qual (iA f p1 p2) (iB f msg j a1 a2 a3 a4 a5 a6 q1 q2 q3 q4) (iS f) .none .none doc pm an (.ref cda) ct cc) (body := iB f msg j a1 a2 a3 a4 a5 a6 q1 q2 q3 q4) (binds := [("self", .ref e), (f, v)]) hroom (X _ _ lf) rfl hlim (codeRec_of X hcd) rfl (T.fok.bd s qual p1 p2 _ doc pm an (.ref cda) ct cc (.ref e) v) ?_ ?_ (fun h₁ hns k => ?_) rfl rfl rfl
  · intro y hy
    show y.2 ≠ .cell
    have hy : y ∈ (iS f).names := hy
    simp only [iS, List.mem_cons, List.not_mem_nil, or_false] at hy
    rcases hy with rfl | rfl | rfl | rfl <;> intro z <;> cases z
  · intro y hy
    simp only [List.mem_cons, List.not_mem_nil, or_false] at hy
    rcases hy with rfl | rfl
    · rfl
    · exact T.fok.lf
  have X₁ : K.In h₁ := X.keeps k
  have hx₁ := k _ _ hx
  obtain ⟨oC, hD1, hD2⟩ : ∃ oD, h₁.get? C = some oD ∧ oD.data = .cls { name := nm, bases := bs, mro := .ref C :: bm, ns := N, qualname := q, hasDict := true, slotNames := sn, subclasses := sub, abstract := ab, collection := col, hasDel := false } := ⟨_, X₁ _ _ hC, rfl⟩
  have hLe : s.heap.objs.size ≠ e := Nat.ne_of_gt (Heap.lt_size hx)
  show _root_.PySem.wpAt _ _ _ (execs (_ :: _) (ksEnv qual (iS f) s.heap.objs.size fI (.ref cda) cc)) _ _ _
  refine ks_wpAt_execs_cons (ks_wpAt_Expr_any (ks_wpAt_MethodCall (pl := pl) ?_ (hsu _ _ _ _).1) rfl (hsu _ _ _ _).2)
  refine ks_wpAt_super_base (env := ksEnv qual (iS f) s.heap.objs.size fI (.ref cda) cc) T.fok.ls T.fok.lc rfl rfl (X₁ _ _ lf) rfl rfl rfl (X₁ _ _ lcd) rfl hvs hfile T.top ?_
  refine ks_loadName_global rfl T.fok.ls (loadGlobal_builtin (env := ksEnv qual (iS f) s.heap.objs.size fI (.ref cda) cc) (hg.keeps k) T.su (hb.keeps k) hbs ⟨rfl, ?_⟩)
  refine wpAny_loadName_free rfl T.fok.lc rfl ⟨_, X₁ _ _ lcc, rfl⟩ ?_
  refine wpAny_loadName_local rfl rfl hns (T.fok.b1 e v) ?_
  refine ks_wpAny_isType_cls hD1 hD2 ⟨rfl, ?_⟩
  refine ks_wpAny_call_super hD1 hD2 hx₁ rfl (fun c z => by cases z) (looks_mroIn X₁ T.mC) (fun h₂ e₂ k₂ => ?_)
  have X₂ : K.In h₂ := X₁.keeps k₂
  have hx₂ := k₂ _ _ hx₁
  have I₂ : InstAt h₂ e (excO C t0) C none := ⟨hx₂, rfl, rfl, trivial⟩
  have hsup := T.hm
  unfold ks_superIn at hsup
  rw [hcl, Option.bind_some] at hsup
  have hxC : e ≠ C := fun z => by rw [z] at hnx; rw [hnx] at hC; cases hC
  refine kxs_getMethod kxs_ValueError e₂ (looks_opaque X₂ T.ho) (l₀ := .ref C :: bm) ?_ rfl X₂ hsup (I₂.type.andThen (looks_subIn X₂ T.hB)) hxC rfl ?_
  · exact fun A Q E s k q => wpAny_bind ((looks_clsIn X₂ hcl) A _ E s k (wpAny_pure q))
  refine kxs_callWith (i := "ValueError.__init__") (x := e) rfl (evalArgs_plain ?_)
  refine spliced_cons ?_
  refine wpAny_Constant_str (k := j) (pos := a4) ?_
  refine spliced_nil ?_
  have k₃ : ∀ b o, h₂.get? b = some o → (h₂.push (kxs_mw "ValueError.__init__" e)).get? b = some o := fun b o z => Heap.get?_push_of_some _ z
  refine ⟨Heap.get?_push_at rfl rfl, ?_⟩
  refine call_mw hbm (X₂.keeps k₃ _ _ hC) (k₃ _ _ hx₂) (Heap.get?_push_at rfl rfl) (by rw [sizeLine_eq]; exact (by decide : 1 ≤ 16777216)) fun h₄ t1 k₄ hx₄ => ?_
  have kA : ∀ b o, h₁.get? b = some o → b ≠ e → h₄.get? b = some o := fun b o z n => k₄ b o n (k₃ _ _ (k₂ _ _ z))
  have kB : ∀ b o, b ≠ e → s.heap.get? b = some o → h₄.get? b = some o := fun b o n z => kA b o (k _ _ z) n
  have X₄ : K.In h₄ := fun b o z => kB b o (fun q => by rw [q, hnx] at z; cases z) (X b o z)
  have hn₄ : h₄.Ns s.heap.objs.size (fun y => ([(("self" : Str), Value.ref e), (f, v)] : List (Str × Value)).reverse.lookup y) := hns.at fun o z => kA _ _ z hLe
  show _root_.PySem.wpAt _ _ _ (execs (_ :: _) (ksEnv qual (iS f) s.heap.objs.size fI (.ref cda) cc)) _ _ _
  refine wpAt_of_wpAny (wpAny_execs_cons (plainObj_wpAny_Assign_Attribute ?_))
  refine wpAny_Name (wpAny_loadName_local rfl T.fok.lf hn₄ (T.fok.b2 e v) ?_) T.fok.db
  refine wpAny_Name (wpAny_loadName_local rfl rfl hn₄ (T.fok.b1 e v) ?_) rfl
  refine set_plain X₄ (ox := excO C t1) (od := none) ⟨hx₄, rfl, rfl, trivial⟩ T.sa ?_
  refine exc_osa X₄ hx₄ hcl (show refsVE (.ref C :: bm) = true from hbm) rfl T.noN (fun h₅ tk₅ dx k₅ dn dne hx₅ hn₅ => ?_)
  show wpAny _ _ (execs _ _) _ _ _
  have z : s.heap.objs.size < h₄.objs.size := hn₄.lt
  exact wpAny_execs_nil (hq h₅ tk₅ dx ⟨fun b o hb q => k₅ b o hb (kB b o hb q), ⟨t1, hx₅⟩, Nat.le_of_lt (Nat.lt_of_lt_of_le z dn), dne, hn₅⟩)
end
theorem fld_ok {f : Str} (h1 : (iS f).names.lookup f = some .local) (h2 : (iS f).names.lookup ("__class__" : Str) = some .free) (h3 : (iS f).names.lookup ("super" : Str) = some .globalImplicit) (h4 : (("self" : Str) == f) = false) (h5 : (f == ("__debug__" : Str)) = false)
    (bd : ∀ (s : Shared) (q : Str) (p1 p2 : Pos) (body : List Stmt) (doc pm : Value) (an : Option Addr) (cd ct : Value) (cc : Addr) (a v : Value),
    BindsTo s (ksFn "__init__" q (iA f p1 p2) body (iS f) .none .none doc pm an cd ct cc) ⟨[a, v], []⟩ [("self", a), (f, v)]) : FldOk f :=
  ⟨h1, h2, h3, fun x v => by simp [List.lookup, h4], fun x v => by simp [List.lookup], h5, bd⟩
theorem fld_fault : FldOk "fault" := fld_ok (by decide +kernel) (by decide +kernel) (by decide +kernel) (by decide +kernel) (by decide +kernel) fun s q p1 p2 body doc pm an cd ct cc a v => BindsTo.of_eq (by first | rfl | with_unfolding_all rfl)
end PLX
/-! PL, part xc: an own error class called -/
namespace PLX
open PySem PySem.W PySem.Calls PySem.Spec PyProof.Rows PySem.HandSPX
/-- an error made of the class at C -/
structure XMade (h h' : Heap) (e C d : Addr) (f : Str) (v : Value) : Prop where
  keep : ∀ b o, h.get? b = some o → h'.get? b = some o
  new : h.objs.size ≤ e
  obj : ∃ t1, h'.get? e = some { cls := .ref C, dict := some d, data := .fields #[.ref t1, .none, .none, .none, .bool false, .none] }
  dbig : h.objs.size ≤ d
  dne : d ≠ e
  ns : h'.Ns1 d (fun y => if y = f then some v else none)
section
variable {prog : Program} {w : World} {A : Around} {R : Result → Shared → Prop} {s : Shared} {K : Frag} {mg mb : Str → Option Value} {C fI : Addr} {x : Str} {f qual : Str}
theorem one_size (v : Value) : [v].length ≤ sizeLine := by
  rw [sizeLine_eq]
  exact (by decide : 1 ≤ 16777216)
theorem x_made (T : XTxt prog K mg x C fI f qual) {v : Value} (X : K.In s.heap) (hg : s.heap.Ns mainGlobals mg) (hb : s.heap.Ns builtinsNs mb) (hbs : mb "super" = some (.type "super")) (hlim : s.heap.NoLimit) (hroom : A.depth + 1 < recursionLimit)
    (hq : ∀ h' tk e d, XMade s.heap h' e C d f v → R (.ok (.ret (.ref e))) { s with heap := h', toks := tk }) :
    codeAny (model prog w) A (.call (.ref C) ⟨[v], []⟩) R s := by
  obtain ⟨nm, q, N, bs, bm, sn, sub, ab, col, dd, k0, k1, k2, k3, k5, hC, hbm⟩ := T.cls
  obtain ⟨hp, g, dr, tk, os⟩ := s
  have k : ∀ b o, hp.get? b = some o → ((hp.push (kdv_tup [v])).push (excO C hp.objs.size)).get? b = some o := fun b o e => Heap.get?_push_of_some _ (Heap.get?_push_of_some _ e)
  have hget : ((hp.push (kdv_tup [v])).push (excO C hp.objs.size)).get? (hp.objs.size + 1) = some (excO C hp.objs.size) := by heap_get
  have hnx : K.lookup (hp.objs.size + 1) = none := by
    cases e : K.lookup (hp.objs.size + 1) with
    | none => rfl
    | some o =>
      have z : hp.get? (hp.objs.size + 1) = some o := X _ _ e
      exact absurd (Nat.lt_of_succ_lt (Heap.lt_size z)) (Nat.lt_irrefl _)
  refine call_own F.excBase_ValueError (fun X => refsVE_contains X bm hbm) (X _ _ hC) (looks_findIn X T.iC) (fun self => bind_fn X self T.tC) (one_size v) ?_
  refine x_init (s := ⟨(hp.push (kdv_tup [v])).push (excO C hp.objs.size), g, dr, tk, os⟩) T (X.keeps k) (hg.keeps k) (hb.keeps k) hbs (hlim.keeps k) hget hnx ?_ fun h' tk' dx ⟨k', hx, dn, dne, hns⟩ => ?_
  · show A.depth + 1 < recursionLimit
    exact hroom
  · have old : ∀ b o, hp.get? b = some o → h'.get? b = some o := fun b o e => k' b o (Nat.ne_of_lt (Nat.lt_succ_of_lt (Heap.lt_size e))) (k b o e)
    have z : hp.objs.size + 1 + 1 ≤ dx := by
      first
        | (simpa only [Heap.size_push] using dn)
        | exact dn
        | (have q := dn; rw [Heap.size_push, Heap.size_push] at q; exact q)
    exact ⟨rfl, hq h' tk' (hp.objs.size + 1) dx ⟨old, Nat.le_succ _, hx, Nat.le_trans (Nat.le_trans (Nat.le_succ _) (Nat.le_succ _)) z, dne, hns⟩⟩
end
end PLX
namespace L2
open PySem PySem.Spec PyProof.Rows
section
variable {X : Cx} {C fI : Addr} {x f qual : Str}
theorem pmk_x {a : Expr} {ta : TA} {p pos : Pos} {k : Nat} (T : PLX.XTxt X.prog X.K X.mg x C fI f qual) (hr : Room (k + 1) X.A) (ha : PA X [a] ta) (hg : Gl X x := by rfl) (hdb : (x == ("__debug__" : Str)) = false := by decide)
    (he : starEach (a :: []) X.env = (false, eval a X.env) :: starEach [] X.env := by rfl) (hpl : (backTo pos (starEach [] X.env)).any (·.1) = false := by rfl) :
    PMk X (.Call (.Name x p) [a] [] pos) (fun σ H Q => ta σ H fun vs H1 => ∃ v, vs = [v] ∧ ∀ d, H1 d = none → Q (.ref C) (some d) (upd H1 d (.xd [(f, v)]))) := by
  intro pins s σ H Q I h
  refine wpAny_Call_Name_kw (ld_glob I hg T.gC ?_ hdb)
  refine PySem.W.callWith_K (h₀ := X.base) I.ok.mod.kin T.kC (thn (ha.run pos pins s σ H _ I h) fun us s1 hh => ?_) he hpl
  obtain ⟨vs, H1, I1, r1, v, ev, q1⟩ := hh
  subst ev
  refine ⟨I1.kIn, ?_⟩
  cases r1 with
  | cons rv rn =>
    rename_i v' us'
    cases rn
    show wpAny _ _ (call (.ref C) [v']) _ _ _
    have hlim := I1.nolimit
    obtain ⟨mb, hb1, hb2⟩ := I1.mod.blt
    have hgl := I1.mod.glob.keeps I1.bk
    have hbl := hb1.keeps I1.bk
    obtain ⟨hp, g, dr, tk, os⟩ := s1
    refine wpAny_call (PLX.x_made T I1.kIn hgl hbl ((hb2 _ (by decide)).trans (by decide +kernel)) hlim (by have := hr.dp; omega) fun h' tk' e d M => ?_)
    show MkP X pins σ Q (.ref e) ⟨h', g, dr, tk', os⟩
    obtain ⟨t1, hoe⟩ := M.obj
    have hns := M.ns
    obtain ⟨G', g1, g2⟩ := restrict h' fun b => decide (b ≠ e)
    have gk : ∀ b, b ≠ e → G'.get? b = h'.get? b := fun b hb => g1 b (decide_eq_true hb)
    have ge : G'.get? e = none := g2 e (by simp)
    have old : ∀ b o, hp.get? b = some o → G'.get? b = some o := fun b o q => (gk b (Nat.ne_of_lt (Nat.lt_of_lt_of_le (Heap.lt_size q) M.new))).trans (M.keep b o q)
    have ob : ObjOk X.prog X.w (upd H1 d (.xd [(f, v)])) G' d (.xd [(f, v)]) :=
      ⟨_, hns.at (fun o q => (gk d M.dne).trans q), fun g => relO_put (fs := []) (mA := fun _ => none) rv (fun _ => True.intro) g⟩
    have J : Inv X pins σ (upd H1 d (.xd [(f, v)])) ⟨G', g, dr, tk', os⟩ := I1.laid (t' := tk') old M.dbig ob
    refine ⟨e, _, _, ⟨G', g, dr, tk', os⟩, _, .ref C, some d, rfl, J, fun b o q => ?_, ge, hoe, ⟨rfl, rfl⟩, rfl, rfl, ?_, rfl, I1.bare, raises_own T.exC T.tyC, q1 d (I1.hok.fresh M.dbig)⟩
    · by_cases hb : b = e
      · have q' : G'.get? b = some o := q
        rw [hb, ge] at q'; cases q'
      · exact (gk b hb).symm.trans q
    · rw [upd_ne (Ne.symm M.dne)]
      exact I1.hok.fresh M.new
/-- x(a).f -/
theorem pe_mkFld {a : Expr} {te : TE} {p pos pos2 : Pos} {k : Nat} (T : PLX.XTxt X.prog X.K X.mg x C fI f qual) (hr : Room (k + 1) X.A) (ha : PE X a te) (hg : Gl X x := by rfl) (hdb : (x == ("__debug__" : Str)) = false := by decide)
    (he : starEach (a :: []) X.env = (false, eval a X.env) :: starEach [] X.env := by rfl) (hpl : (backTo pos (starEach [] X.env)).any (·.1) = false := by rfl)
    (hb : attributeBase (.Call (.Name x p) [a] [] pos) f X.env (eval (.Call (.Name x p) [a] [] pos) X.env) = eval (.Call (.Name x p) [a] [] pos) X.env := by rfl) :
    PE X (.Attribute (.Call (.Name x p) [a] [] pos) f pos2) te := by
  refine ⟨fun pins s σ H Q I h => ?_⟩
  have ha' : PA X [a] (tCons te tNil) := pa_cons ha pa_nil he
  refine attr_of hb ?_
  refine wpAny_Call_Name_kw (ld_glob I hg T.gC ?_ hdb)
  refine PySem.W.callWith_K (h₀ := X.base) I.ok.mod.kin T.kC (thn (ha'.run pos pins s σ H (fun vs H' => match vs with | [v] => Q v H' | _ => False) I h) fun us s1 hh => ?_) he hpl
  obtain ⟨vs, H1, I1, r1, q1⟩ := hh
  obtain ⟨v, rfl⟩ : ∃ v, vs = [v] := by
    match vs, q1 with
    | [v], _ => exact ⟨v, rfl⟩
  have q1 : Q v H1 := q1
  refine ⟨I1.kIn, ?_⟩
  cases r1 with
  | cons rv rn =>
    rename_i v' us'
    cases rn
    show wpAny _ _ (call (.ref C) [v']) _ _ _
    have hlim := I1.nolimit
    obtain ⟨mb, hb1, hb2⟩ := I1.mod.blt
    have hgl := I1.mod.glob.keeps I1.bk
    have hbl := hb1.keeps I1.bk
    obtain ⟨hp, g, dr, tk, os⟩ := s1
    refine wpAny_call (PLX.x_made T I1.kIn hgl hbl ((hb2 _ (by decide)).trans (by decide +kernel)) hlim (by have := hr.dp; omega) fun h' tk' e d M => ?_)
    obtain ⟨t1, hoe⟩ := M.obj
    have J : Inv X pins σ H1 ⟨h', g, dr, tk', os⟩ := I1.kept (t' := tk') M.keep
    obtain ⟨od, ho, hl⟩ := lookIn_ns M.ns
    have IA : PySem.W.InstAt h' e { cls := .ref C, dict := some d, data := .fields #[.ref t1, .none, .none, .none, .bool false, .none] } C (some od) := ⟨hoe, rfl, rfl, ho⟩
    exact HandSPX.exc_get (s := ⟨h', g, dr, tk', os⟩) J.kIn IA T.ga T.gg T.exC (PySem.W.findObj_own T.hdC T.noN rfl (by rw [hl, if_pos rfl])) (handed_of rv) ⟨v, H1, J.tok _, rv, q1⟩
end
end L2
/-! PL, part h: exceptions. -/
namespace PL
open PySem PySem.Spec PyProof.Rows L2
theorem bt_ValueError : bootBuiltins "ValueError" = some (.type "ValueError") := by decide +kernel
/-! ### raise -/
/-- raise x(e), x's only field f -/
def sRaise (x f : Str) (fe : EM) : SM := fun env st => sOf (fe env st) env fun v st1 => .err env x (some [(f, v)]) st1
section
variable {X : Cx} {W : WX} {C fI : Addr} {x f qual : Str} {a : Expr} {fe : EM} {p pos pos2 : Pos} {k : Nat}
theorem ms_raise (hc : X.calm = true) (tk : Takes X W) (T : PLX.XTxt X.prog X.K X.mg x C fI f qual) (hr : Room (k + 1) X.A) (ha : ME X W a fe) (hg : Gl X x := by rfl) (hdb : (x == ("__debug__" : Str)) = false := by decide)
    (he : starEach (a :: []) X.env = (false, eval a X.env) :: starEach [] X.env := by rfl) (hpl : (backTo pos (starEach [] X.env)).any (·.1) = false := by rfl) :
    MS X W (.Raise (some (.Call (.Name x p) [a] [] pos)) none pos2) (sRaise x f fe) := by
  refine psI (ps_raise hc tk (pmk_x T hr (pa_cons ha pa_nil he) hg hdb he hpl)) ?_
  rintro D σ H ⟨ω, st, env, wd, re, h⟩
  refine ⟨ω, st, env, wd, re, (h.bind (Rel := RV X.K) re).mono ?_⟩
  rintro y H1 ⟨ω1, st1, v, e1, wd1, r1, h1⟩
  refine ⟨y, rfl, fun d hd => ?_⟩
  have nF : ω1.F d = none := wd1.fresh hd
  have nρ : d ∉ ω1.ρ := fun m => by
    obtain ⟨u, q⟩ := wd1.there m
    rw [hd] at q; cases q
  have x1 : Ext ω1 H1 ω1 (upd H1 d (.xd [(f, y)])) := by
    refine ⟨.refl _, fun b o e _ => ?_, fun b z => ?_, fun b z => .inl z, fun b m => .inl m⟩
    · rw [upd_ne (ne_of_none e hd)]; exact e
    · by_cases hb : b = d
      · subst hb; rw [upd_same]; simp
      · rw [upd_ne hb]; exact z
  exact h1 ω1 _ σ (some d) (.ref C) x1 (wd1.other nF nρ) (re.mono e1.le) T.gC ⟨d, _, rfl, hd, upd_same, nF, nρ, rfl, .cons r1 .nil⟩
/-- x(e).f -/
theorem me_mkFld (T : PLX.XTxt X.prog X.K X.mg x C fI f qual) (hr : Room (k + 1) X.A) (ha : ME X W a fe) (hg : Gl X x := by rfl) (hdb : (x == ("__debug__" : Str)) = false := by decide)
    (he : starEach (a :: []) X.env = (false, eval a X.env) :: starEach [] X.env := by rfl) (hpl : (backTo pos (starEach [] X.env)).any (·.1) = false := by rfl)
    (hb : attributeBase (.Call (.Name x p) [a] [] pos) f X.env (eval (.Call (.Name x p) [a] [] pos) X.env) = eval (.Call (.Name x p) [a] [] pos) X.env := by rfl) :
    ME X W (.Attribute (.Call (.Name x p) [a] [] pos) f pos2) fe := pe_mkFld T hr ha hg hdb he hpl hb
end
/-! ### defs that raise -/
section
variable {P : Program} {w : World} {K : PySem.W.Frag} {mg : Str → Option Value} {base : Heap}
theorem okPX {x qual : Str} {st : Stmt} {f : Addr} {fd : FuncData} {N ps : List Str} {k : Nat} {fm : SM} (F : Fun K x qual st f fd) (S : FnScope N ps (defScope st))
    (hbody : ∀ (cdv : Value) (A : Around) (outer : List Env) (s : Shared) (H : Hp) (E : XK), Room k (A.deeper (envOfC qual (defScope st) s.heap.objs.size f cdv)) →
      MB (cxOf (L2.CX P w) P w K mg base N qual (defScope st) f cdv A outer s H E) (fun cls d _ H => E cls d H) (defBody st) fm) :
    FnOk P w K mg base (L2.CX P w) (k + 1) f fd ps (spP ⟨K, mg⟩ ps.length (runBody N.length fm)) := by
  refine F.okX S (fun vs H Q E h => spP_len h) fun cdv A outer s H vs Q E hr h => ⟨_, hbody cdv A outer s H E hr, ?_⟩
  have hl := spP_len h
  obtain ⟨ω, s0, args, wd, r, h⟩ := h
  unfold guardN at h
  rw [if_pos (by rw [r.length]; exact hl)] at h
  refine ⟨ω, s0, args.map some ++ List.replicate (N.length - args.length) none, wd, ?_, ?_⟩
  · unfold L2.start
    rw [r.length]
    exact r.rep_append _
  · have h : After ⟨K, mg⟩ E ω H (runBody N.length fm args s0) (RV K) Q := h
    unfold runBody at h
    split at h
    · rename_i q; rw [q]
      exact fun ω' H' σ' x w r => h ω' H' .non x w .non
    · rename_i q; rw [q]
      exact fun ω' H' y x w r => h ω' H' y x w r
    · rename_i q; rw [q]
      exact fun ω' H' σ' d cls x w r m y => h ω' H' d cls x w m y
    · exact False.elim h
structure HasX (P : Program) (w : World) (K : PySem.W.Frag) (mg : Str → Option Value) (base : Heap) (x : Str) (ps : List Str) (k : Nat) (m : List PV → Store → Res PV) : Prop where
  ex : ∃ f fd, FnOk P w K mg base (L2.CX P w) k f fd ps (spP ⟨K, mg⟩ ps.length m) ∧ mg x = some (.ref f) ∧ PySem.W.keepIn K (.ref f) = true ∧ Binds K fd ps [] ∧ FdAt K f fd
theorem hasX_of {x : Str} {st : Stmt} {N ps : List Str} {k : Nat} {fm : SM} (d : DefOf K mg x st ps) (S : FnScope N ps (defScope st))
    (hbody : ∀ {f : Addr} (cdv : Value) (A : Around) (outer : List Env) (s : Shared) (H : Hp) (E : XK), Room k (A.deeper (envOfC x (defScope st) s.heap.objs.size f cdv)) →
      MB (cxOf (L2.CX P w) P w K mg base N x (defScope st) f cdv A outer s H E) (fun cls d _ H => E cls d H) (defBody st) fm) : HasX P w K mg base x ps (k + 1) (runBody N.length fm) := by
  obtain ⟨f, fd, F, hm, hb⟩ := d.ex
  exact ⟨f, fd, okPX F S fun cdv A outer s H E hr => hbody cdv A outer s H E hr, hm, F.kp, hb, .of F⟩
end
/-- a call of a def that may raise -/
def eCallX (n : Nat) (m : List PV → Store → Res PV) (fs : AM) : EM := eArgs (guardN n m) fs
section
variable {X : Cx} {W : WX} {x : Str} {p pos : Pos} {e : Expr} {es : List Expr} {fs : AM} {ps : List Str} {k : Nat} {m : List PV → Store → Res PV}
theorem me_callX {n : Nat} (tk : Takes X W) (h : HasX X.prog X.w X.K X.mg X.base x ps k m) (hr : Room k X.A) (ha : MA X W (e :: es) fs) (hn : ps.length = n := by rfl) (hg : Gl X x := by rfl) (hdb : (x == ("__debug__" : Str)) = false := by decide)
    (he : starEach (e :: es) X.env = (false, eval e X.env) :: starEach es X.env := by rfl) (hpl : (backTo pos (starEach es X.env)).any (·.1) = false := by rfl) :
    ME X W (.Call (.Name x p) (e :: es) [] pos) (eCallX n m fs) := by
  subst hn
  obtain ⟨f, fd, F, hm, hk, hb, _⟩ := h.ex
  refine peI (pe_callS F hr hg hm hk hb (fun σ => passAt tk σ) ha hdb he hpl) ?_
  rintro σ H Q ⟨ω, st, env, wd, re, h⟩
  refine ⟨ω, st, env, wd, re, (After.bind (Rel := RL X.K) h).mono ?_⟩
  rintro xs H1 ⟨ω1, st1, vs, e1, wd1, r1, h1⟩
  exact ⟨ω1, st1, vs, wd1, r1, h1⟩
end
/-! ### try .. except x as n -/
def unsetR (i : Nat) : SR → SR
  | .nx env st => .nx (env.set i none) st
  | .bk env st => .bk (env.set i none) st
  | .ct env st => .ct (env.set i none) st
  | .rt v st => .rt v st
  | _ => .stuck
open Classical in
/-- what the suite does, whatever the addresses of the error and of its dict -/
noncomputable def anyAd (r : Nat → Nat → SR) : SR := if ∀ a d, r a d = r 0 0 then r 0 0 else .stuck
noncomputable def sTry (i : Nat) (x : Str) (fb : SM) (fs : Nat → Nat → SM) : SM := fun env st => match fb env st with
  | .err env' n (some fl) st' => if n = x then anyAd fun a d => unsetR i (fs a d (env'.set i (some (.exc a d (fl.map (·.1)) (fl.map (·.2))))) st') else .stuck
  | .err _ _ none _ => .stuck
  | r => r
theorem Wd.freezeX {K : PySem.W.Frag} {ω₀ ω : Wo} {H₀ H : Hp} {p : Addr} {o : HO} (x : Ext ω₀ H₀ ω H) (n0 : H₀ p = none) (e : H p = some o) (nF : ω.F p = none) : Ext ω₀ H₀ (ω.fz p o) H := by
  refine ⟨x.le.trans (Wo.fz_le nF), x.oth, x.live, fun b z => ?_, x.nρ⟩
  by_cases hb : b = p
  · subst hb; exact .inr n0
  · have z : upd ω.F p o b ≠ none := z
    rw [upd_ne hb] at z
    exact x.nF b z
section
variable {X : Cx} {W : WX} {x n : Str} {C : Addr} {i : Nat} {body suite : List Stmt} {b₀ : Stmt} {np pos pos' : Pos} {fb : SM} {fs : Nat → Nat → SM}
theorem ms_try (hs : X.stack = X.env :: X.outer) (hf : X.env.frame = some X.env.locals) (hN : X.N.Nodup) (hi : X.N[i]? = some n) (hln : X.env.kindOf n = some .local) (hc : Names X x (.ref C)) (hm : X.mg x = some (.ref C)) (hte : PySem.W.exmOne X.K (.ref C) (.ref C) = some true)
    (hb : ∀ (W : WX) (pn : List (Addr × Obj)) (xe : Value → Shared → Prop), Takes (X.tr pn xe) W → MB (X.tr pn xe) W body fb)
    (hsu : ∀ (a : Addr) (oe : Obj) (d : Addr) (pn : List (Addr × Obj)), Zc (.ref C) (some d) oe → (∃ vs, oe.data = .fields vs) → MB (X.suite a ((a, oe) :: pn)) W0 (b₀ :: suite) (fs a d)) :
    MS X W (.Try body [.ExceptHandler (some (.Name x np)) (some n) (b₀ :: suite) pos'] [] [] pos) (sTry i x fb fs) := by
  refine psI (ps_try_as (tb := fun W => tS X W fb) (ts := fun a cls d D σ H => ∃ dd : Addr, cls = .ref C ∧ d = some dd ∧ tS X W0 (fs a dd) D σ H) (Wout := fun _ _ _ _ => False) hs hf hN hi hln hc takes0
    (fun W pn xe tk _ => hb W pn xe tk) (fun a oe cls d pn hz hf => ⟨fun pins s σ H D I h => ?_⟩)) ?_
  · obtain ⟨dd, rfl, rfl, h⟩ := h
    exact (hsu a oe dd pn hz hf).run pins s σ H D I h
  rintro D σ H ⟨ω, st, env, wd, re, h⟩
  refine ⟨ω, st, env, wd, re, ?_⟩
  unfold sTry at h
  split at h
  · rename_i env' n' fl st' q
    rw [q]
    split at h
    · rename_i en
      subst en
      unfold anyAd at h
      split at h
      · rename_i all
        intro ω' H' σ' d cls x1 w1 r1 m1 xr
        rw [hm] at m1
        cases m1
        obtain ⟨p, vs, rfl, n0, ep, nF, nρ, ens, rv⟩ := xr
        refine ⟨true, hte, fun _ a na => ⟨p, rfl, rfl, ω'.fz p (.xd vs), st', env'.set i (some (.exc a p (fl.map (·.1)) (fl.map (·.2)))), w1.freeze ep nF nρ, ?_, ?_⟩, fun z => nomatch z⟩
        · have le := Wo.fz_le (o := .xd vs) nF
          exact (r1.mono le).set (.exc upd_same ens.symm (rv.mono le)) i
        · have h : AfterS X W ω H (unsetR i (fs a p (env'.set i (some (.exc a p (fl.map (·.1)) (fl.map (·.2))))) st')) D := by
            have e := all a p
            dsimp only at e
            rw [e]
            exact h
          have x2 := Wd.freezeX (K := X.K) x1 n0 ep nF
          cases q2 : fs a p (env'.set i (some (.exc a p (fl.map (·.1)) (fl.map (·.2))))) st' with
          | nx e2 s2 => rw [q2] at h; exact fun ω3 H3 σ3 x w r => h ω3 H3 (σ3.set i none) (x2.trans x) w (r.unset i)
          | bk e2 s2 => rw [q2] at h; exact fun ω3 H3 σ3 x w r => h ω3 H3 (σ3.set i none) (x2.trans x) w (r.unset i)
          | ct e2 s2 => rw [q2] at h; exact fun ω3 H3 σ3 x w r => h ω3 H3 (σ3.set i none) (x2.trans x) w (r.unset i)
          | rt v s2 => rw [q2] at h; exact fun ω3 H3 y x w r => h ω3 H3 y (x2.trans x) w r
          | err e2 n2 f2 s2 => rw [q2] at h; exact False.elim h
          | stuck => rw [q2] at h; exact False.elim h
      · exact False.elim h
    · exact False.elim h
  · exact False.elim h
  · rename_i r q1 q2
    cases q3 : fb env st with
    | nx e2 s2 => rw [q3] at h; exact h
    | bk e2 s2 => rw [q3] at h; exact h
    | ct e2 s2 => rw [q3] at h; exact h
    | rt v s2 => rw [q3] at h; exact h
    | err e2 n2 f2 s2 =>
      cases f2 with
      | none => exact absurd q3 (q2 _ _ _)
      | some fl => exact absurd q3 (q1 _ _ _ _)
    | stuck => rw [q3] at h; exact False.elim h
end
/-! ### within the suite: isinstance(e, ..), e.f -/
def eIsE (a d : Nat) (b : Bool) (fe : EM) : EM := fun env st => (fe env st).bind fun v st1 => match v with
  | .exc a' d' _ _ => if a' = a ∧ d' = d then .ok (.bl b) st1 else .stuck
  | _ => .stuck
def eXf (a d : Nat) (f : Str) (fe : EM) : EM := fun env st => (fe env st).bind fun v st1 => match v with
  | .exc a' d' ns xs => if a' = a ∧ d' = d then match (ns.zip xs).lookup f with
    | some y => .ok y st1
    | none => .stuck
    else .stuck
  | _ => .stuck
/-- what isinstance asks of the error's class -/
structure IsC (K : PySem.W.Frag) (C : Addr) : Prop where
  hcl : (PySem.W.clsIn K C).isSome = true
  hg : PySem.W.findIn K (.ref C) "__getattribute__" = some (some (.builtin "BaseException.__getattribute__"))
  hk : PySem.W.findIn K (.ref C) "__getattr__" = some none
  hs : PySem.W.subIn K (.ref C) (.type "BaseException") = some true
  ha : PySem.W.findIn K (.ref C) "__class__" = some (some (.builtin "object.__class__"))
  hn : PySem.W.specialIn K (.builtin "object.__class__") "__get__" = some (some (.builtin "getset_descriptor.__get__"))
  ht : PySem.W.takesIn K (.builtin "object.__class__") = some true
  hm : PySem.W.mroIn K C (.type "object") = some true
def rIsD (K : PySem.W.Frag) (C a d : Addr) : List V → Hp → VK → Prop := fun xs H Q => ∃ (c : V) (cv : Value) (b : Bool) (fs : List (Str × V)), xs = [.ref a, c] ∧ H d = some (.xd fs) ∧ (∀ u, RelV c u → u = cv) ∧ PySem.W.kitOne K (.ref C) cv = some b ∧ Q (.bl b) H
def rIsDT (K : PySem.W.Frag) (C a d : Addr) : List V → Hp → VK → Prop := fun xs H Q => ∃ (tp : Addr) (cs : List V) (ws : List Value) (b : Bool) (fs : List (Str × V)), xs = [.ref a, .ref tp] ∧ H d = some (.xd fs) ∧ H tp = some (.tup cs) ∧ (∀ us, Vals cs us → us = ws) ∧ PySem.W.kitAny K (.ref C) ws = some b ∧ Q (.bl b) H
section
variable {X : Cx} {a d C : Addr} {oe : Obj} {pn : List (Addr × Obj)}
theorem inst_of {pins : List (Addr × Obj)} {σ : L2.St} {H : Hp} {s : Shared} (hz : Zc (.ref C) (some d) oe) (hf : ∃ vs, oe.data = .fields vs) (I : Inv (X.suite a ((a, oe) :: pn)) pins σ H s) {fs : List (Str × V)} (e : H d = some (.xd fs)) : ∃ od, PySem.W.InstAt s.heap a oe C (some od) := by
  obtain ⟨hget, _⟩ := I.pin (a, oe) (List.mem_append.mpr (.inl List.mem_cons_self))
  obtain ⟨vs, hv⟩ := hf
  have hx : ObjOk X.prog X.w H s.heap d (.xd fs) := I.hok d _ e
  obtain ⟨mA, hns, hr⟩ := hx
  obtain ⟨od, ho, hl⟩ := lookIn_ns hns
  exact ⟨od, hget, hz.1, by unfold PySem.W.notCls; rw [hv] <;> rfl, by rw [hz.2]; exact ho⟩
theorem call_isD (T : IsC X.K C) (hz : Zc (.ref C) (some d) oe) (hf : ∃ vs, oe.data = .fields vs) : CallR (X.suite a ((a, oe) :: pn)) (.builtin "isinstance") (rIsD X.K C a d) := by
  intro pins s σ H xs us Q I r h
  obtain ⟨c, cv, b, fs, rfl, ed, hcv, e, q⟩ := h
  obtain ⟨u1, u2, rfl, r1, r2⟩ := vals2 r
  cases (show u1 = Value.ref a from r1)
  have ec := hcv _ r2
  subst ec
  obtain ⟨od, J⟩ := inst_of hz hf I ed
  exact PySem.W.kia_one (PySem.W.kitx_exc T.hcl T.hg T.hk T.hs T.ha T.hn T.ht T.hm) I.kIn J e (fun z => nomatch z) fun tk => ⟨.bl b, H, I.kept (t' := tk) fun _ _ z => z, rfl, q⟩
theorem call_isDT (T : IsC X.K C) (hz : Zc (.ref C) (some d) oe) (hf : ∃ vs, oe.data = .fields vs) : CallR (X.suite a ((a, oe) :: pn)) (.builtin "isinstance") (rIsDT X.K C a d) := by
  intro pins s σ H xs us Q I r h
  obtain ⟨tp, cs, ws, b, fs, rfl, ed, hT, hws, e, q⟩ := h
  obtain ⟨u1, u2, rfl, r1, r2⟩ := vals2 r
  cases (show u1 = Value.ref a from r1)
  cases (show u2 = Value.ref tp from r2)
  obtain ⟨od, J⟩ := inst_of hz hf I ed
  obtain ⟨_, its, rv, o, h1, h2, n, h3⟩ := (show ObjOk X.prog X.w H s.heap tp (.tup cs) from I.hok tp _ hT)
  have e3 := hws _ rv
  subst e3
  obtain ⟨oc, od', dt, sl⟩ := o
  simp only at h2 h3
  subst h2 h3
  exact PySem.W.kia_tup (PySem.W.kitx_exc T.hcl T.hg T.hk T.hs T.ha T.hn T.ht T.hm) I.kIn J h1 e (fun z => nomatch z) fun tk => ⟨.bl b, H, I.kept (t' := tk) fun _ _ z => z, rfl, q⟩
end
theorem lookup_rep {K : PySem.W.Frag} {ω : Wo} {f : Str} : ∀ {fs : List (Str × V)} {xs : List PV} {y : PV}, Reps K ω xs (fs.map (·.2)) → ((fs.map (·.1)).zip xs).lookup f = some y → ∃ v, fs.lookup f = some v ∧ Rep K ω y v
  | [], _, y, .nil, e => by simp at e
  | (g, v) :: fs, _, y, .cons r t, e => by
    simp only [List.map_cons, List.zip_cons_cons, List.lookup_cons] at e ⊢
    by_cases h : (f == g) = true
    · rw [h] at e ⊢
      simp only [Option.some.injEq] at e
      subst e
      exact ⟨v, rfl, r⟩
    · have h : (f == g) = false := by simpa using h
      rw [h] at e ⊢
      exact lookup_rep t e
section
variable {X : Cx} {W : WX} {a d C : Addr} {oe : Obj} {pn : List (Addr × Obj)} {e : Expr} {fe : EM} {y : Str} {p p2 pos : Pos} {b : Bool}
theorem me_isE {u : Value} {v : V} (T : IsC X.K C) (hz : Zc (.ref C) (some d) oe) (hf : ∃ vs, oe.data = .fields vs) (hi : X.mg "isinstance" = none) (hv : bootBuiltins "isinstance" = some (.builtin "isinstance"))
    (hk : PySem.W.kitOne X.K (.ref C) u = some b) (hR : ∀ u', RelV v u' → u' = u) {c : Expr} (hcl : ∀ W, ME (X.suite a ((a, oe) :: pn)) W c (eC (.con v))) (he : ME (X.suite a ((a, oe) :: pn)) W e fe) (hg : Gl (X.suite a ((a, oe) :: pn)) "isinstance" := by rfl)
    (hs1 : starEach (e :: [c]) X.env = (false, eval e X.env) :: starEach [c] X.env := by rfl) (hs2 : starEach (c :: []) X.env = (false, eval c X.env) :: starEach [] X.env := by rfl) (hpl : (backTo pos (starEach [c] X.env)).any (·.1) = false := by rfl) :
    ME (X.suite a ((a, oe) :: pn)) W (.Call (.Name "isinstance" p) [e, c] [] pos) (eIsE a d b fe) := by
  refine peI (pe_callB (call_isD T hz hf) hg hi hv (pa_cons he (pa_cons (hcl W) pa_nil hs2) hs1) (by decide) (by decide) hs1 hpl) ?_
  rintro σ H Q ⟨ω, st, env, wd, re, h⟩
  refine ⟨ω, st, env, wd, re, (After.bind (Rel := RV X.K) h).mono ?_⟩
  rintro x H1 ⟨ω1, st1, pv, e1, wd1, r1, h1⟩
  split at h1
  · rename_i a' d' ns xs
    split at h1
    · rename_i hh
      obtain ⟨rfl, rfl⟩ := hh
      cases r1 with
      | exc ed en rr =>
        rename_i fs
        refine ⟨ω1, st1, env, wd1, re.mono e1.le, ?_⟩
        intro ω2 H2 z e2 wd2 r2
        cases r2
        exact ⟨v, u, b, fs, rfl, wd2.sub _ _ (e2.le.fz _ _ ed), hR, hk, After.shift h1 e2 ω2 H2 (.bl b) (.refl _ _) wd2 (.bl b)⟩
    · exact False.elim h1
  · exact False.elim h1
theorem vals_refs : ∀ {as : List Addr} {us : List Value}, Vals (as.map V.ref) us → us = as.map Value.ref
  | [], _, r => by cases r; rfl
  | a :: as, _, r => by
    cases r with
    | cons r t =>
      rename_i u us
      have e : u = Value.ref a := r
      rw [e, vals_refs t]
      rfl
/-- names of classes as a tuple's items -/
def aCs (cs : List V) : AM := fun _ st => .ok (cs.map .con) st
theorem ma_cs_nil {X : Cx} {W : WX} : MA X W [] (aCs []) := paI pa_nil fun σ H Q ⟨ω, st, env, wd, re, h⟩ => h.ok_here wd .nil
theorem ma_cs_cons {X : Cx} {W : WX} {v : V} {cs : List V} {es : List Expr} {u : Value} (hg : Gl X y) (hm : X.mg y = some u) (r : RelV v u) (t : MA X W es (aCs cs)) (hd : (y == ("__debug__" : Str)) = false := by decide)
    (hs : starEach (.Name y pos :: es) X.env = (false, eval (.Name y pos) X.env) :: starEach es X.env := by rfl) : MA X W (.Name y pos :: es) (aCs (v :: cs)) := by
  refine paI (pa_cons (pe_glob (pos := pos) hg hm r hd) t hs) ?_
  rintro σ H Q ⟨ω, st, env, wd, re, h⟩
  refine ⟨ω, st, env, wd, re, fun ω1 H1 xs e1 w1 r1 => ?_⟩
  exact h ω1 H1 (v :: xs) e1 w1 (.cons (.con v) r1)
theorem me_isET {es : List Expr} {cs : List V} {us : List Value} {k2 : Nat} (T : IsC X.K C) (hz : Zc (.ref C) (some d) oe) (hf : ∃ vs, oe.data = .fields vs) (hi : X.mg "isinstance" = none) (hv : bootBuiltins "isinstance" = some (.builtin "isinstance"))
    (hk : PySem.W.kitAny X.K (.ref C) us = some b) (hR : ∀ us', Vals cs us' → us' = us) (hlen : cs.length ≤ 1000) (hcl : ∀ W, MA (X.suite a ((a, oe) :: pn)) W es (aCs cs)) (he : ME (X.suite a ((a, oe) :: pn)) W e fe) (hg : Gl (X.suite a ((a, oe) :: pn)) "isinstance" := by rfl)
    (hs1 : starEach (e :: [.Tuple es k2 p2]) X.env = (false, eval e X.env) :: starEach [.Tuple es k2 p2] X.env := by rfl) (hs2 : starEach (.Tuple es k2 p2 :: []) X.env = (false, eval (.Tuple es k2 p2) X.env) :: starEach [] X.env := by rfl) (hpl : (backTo pos (starEach [.Tuple es k2 p2] X.env)).any (·.1) = false := by rfl) :
    ME (X.suite a ((a, oe) :: pn)) W (.Call (.Name "isinstance" p) [e, .Tuple es k2 p2] [] pos) (eIsE a d b fe) := by
  refine peI (pe_callB (call_isDT T hz hf) hg hi hv (pa_cons he (pa_cons (pe_tup (hcl W)) pa_nil hs2) hs1) (by decide) (by decide) hs1 hpl) ?_
  rintro σ H Q ⟨ω, st, env, wd, re, h⟩
  refine ⟨ω, st, env, wd, re, (After.bind (Rel := RV X.K) h).mono ?_⟩
  rintro x H1 ⟨ω1, st1, pv, e1, wd1, r1, h1⟩
  split at h1
  · rename_i a' d' ns xs
    split at h1
    · rename_i hh
      obtain ⟨rfl, rfl⟩ := hh
      cases r1 with
      | exc ed en rr =>
        rename_i fs
        refine ⟨ω1, st1, env, wd1, re.mono e1.le, ?_⟩
        intro ω2 H2 zs e2 wd2 r2
        have ez : ∀ {cs : List V} {zs : List V}, Reps X.K ω2 (cs.map .con) zs → zs = cs := by
          intro cs
          induction cs with
          | nil => intro zs r; cases r; rfl
          | cons c cs ih => intro zs r; cases r with
            | cons r t => cases r; rw [ih t]
        have ez := ez r2
        subst ez
        refine ⟨by rw [sizeLine_eq]; omega, fun tp htp => ?_⟩
        obtain ⟨w3, x3⟩ := wd2.fz htp (.tup zs)
        have x23 := e2.trans x3
        exact ⟨tp, zs, us, b, fs, rfl, w3.sub _ _ (x23.le.fz _ _ ed), upd_same, hR, hk, After.shift h1 x23 _ _ (.bl b) (.refl _ _) w3 (.bl b)⟩
    · exact False.elim h1
  · exact False.elim h1
theorem me_xf {f : Str} (T : XfC X.K C) (hno : PySem.W.findIn X.K (.ref C) f = some none) (hz : Zc (.ref C) (some d) oe) (hf : ∃ vs, oe.data = .fields vs) (he : ME (X.suite a ((a, oe) :: pn)) W e fe)
    (hb : attributeBase e f X.env (eval e X.env) = eval e X.env := by rfl) : ME (X.suite a ((a, oe) :: pn)) W (.Attribute e f pos) (eXf a d f fe) := by
  refine peI (pe_xf T hno hz hf he hb) ?_
  rintro σ H Q ⟨ω, st, env, wd, re, h⟩
  refine ⟨ω, st, env, wd, re, (After.bind (Rel := RV X.K) h).mono ?_⟩
  rintro x H1 ⟨ω1, st1, pv, e1, wd1, r1, h1⟩
  split at h1
  · rename_i a' d' ns xs
    split at h1
    · rename_i hh
      obtain ⟨rfl, rfl⟩ := hh
      split at h1
      · rename_i yv q
        cases r1 with
        | exc ed en rr =>
          rename_i fs
          subst en
          obtain ⟨v, lv, rv⟩ := lookup_rep rr q
          exact ⟨rfl, rfl, d', fs, v, rfl, wd1.sub _ _ ed, lv, h1.ok_here wd1 rv⟩
      · exact False.elim h1
    · exact False.elim h1
  · exact False.elim h1
end
end PL
/-! PL, the end: from a law's evaluator to the law. -/
namespace PL
open PySem PySem.Spec PyProof.Rows L2
theorem defOf_mk {K : PySem.W.Frag} {h : Heap} {mg : Str → Option Value} {x : Str} {st : Stmt} {ps : List Str} {f : Addr} {od an : Option Addr} {sl : Array (Option Value)} {oc kV dc pm cd ct : Value} (X : K.In h) (G : h.Ns mainGlobals mg)
    (a : PySem.W.nsIn K mainGlobals x = some (some (.ref f))) (l : K.lookup f = some ⟨oc, od, .func (PySem.W.fnOf x x (defArgs st) (defBody st) (defScope st) .none kV dc pm an cd ct), sl⟩) (c : PySem.W.codeIn K cd x = true) (k : PySem.W.keepIn K (.ref f) = true)
    (hb : ∀ (kV doc pm : Value) (an : Option Addr) (cdv ct : Value) (us : List Value), us.length = ps.length → bindArgs (PySem.W.fnOf x x (defArgs st) (defBody st) (defScope st) .none kV doc pm an cdv ct) ⟨us, []⟩ = pure (ps.zip us)) : DefOf K mg x st ps := by
  have F := fun_mk (st := st) l c k
  exact ⟨_, _, F, PySem.W.mg_of X G a, F.binds hb⟩
/-- a law's promise: for every script -/
def spScr (K : PySem.W.Frag) (m : List PV → Store → Res PV) : Sp := fun vs H Q _ => ∃ (a : Addr) (ns : List Int), vs = [.ref a] ∧ SqL K H a (ns.map V.int) ∧ ns.length ≤ 63 ∧ ∀ H', Q (.bl true) H'
theorem reps_int {K : PySem.W.Frag} {ω : Wo} : ∀ ns : List Int, Reps K ω (ns.map PV.int) (ns.map V.int)
  | [] => .nil
  | n :: ns => .cons (.int n) (reps_int ns)
theorem FnOk_scr {P : Program} {w : World} {K : PySem.W.Frag} {mg : Str → Option Value} {base : Heap} {k : Nat} {f : Addr} {fd : FuncData} {m : List PV → Store → Res PV} (F : FnOk P w K mg base CX0 k f fd ["script"] (spP ⟨K, mg⟩ 1 (nE m)))
    (hm : ∀ ns : List Int, ns.length ≤ 63 → ∃ s, m [.frz (ns.map .int)] [] = .ok (.bl true) s) : FnOk P w K mg base CX0 k f fd ["script"] (spScr K m) := by
  have i : ∀ vs H Q E, spScr K m vs H Q E → spP ⟨K, mg⟩ 1 (nE m) vs H Q E := by
    rintro vs H Q E ⟨a, ns, rfl, hS, hl, hQ⟩
    obtain ⟨s, e⟩ := hm ns hl
    refine ⟨⟨H, []⟩, [], [.frz (ns.map .int)], ⟨Same.refl _, rfl, List.nodup_nil, fun a m => by simp at m, fun l a o e => by simp at e⟩, .cons (.frz hS (reps_int ns)) .nil, ?_⟩
    show After _ E _ H (guardN 1 (nE m) [.frz (ns.map .int)] []) _ Q
    unfold guardN
    rw [if_pos (show ([PV.frz (ns.map .int)] : List PV).length = 1 from rfl)]
    show After _ E _ H (noErr (m [.frz (ns.map .int)] [])) _ Q
    rw [e]
    intro ω' H' x _ _ r
    cases r
    exact hQ H'
  exact ⟨fun vs H Q E h => F.1 vs H Q E (i _ _ _ _ h), fun A outer s H args us vs Q E hr e0 hb r hsp => F.2 A outer s H args us vs Q E hr e0 hb r (i _ _ _ _ hsp)⟩
theorem walk_scr {l : PySem.W.OpenLaw} {k : Nat} {m : List PV → Store → Res PV} {q : Program} {loose : List Str} {XP : (Str → Option Value) → Heap → Prop} {YP : World → Heap → Prop} {d : DefRec} {K : Params → PySem.W.Frag} (hn : l.most = some 63) (hdf : d.params.defaults = []) (hr : Room k callerA)
    (hY : ∀ (w : World) (h : Heap), YP w h → (K w.params).In h)
    (F : ∀ (w : World) (mg : Str → Option Value) (fa : Addr) (h : Heap), (K w.params).In h → h.Ns mainGlobals mg → mg d.name = some (.ref fa) →
      ∃ fd : FuncData, (∀ (s : Shared) (u : Value), BindsTo s fd ⟨[u], []⟩ [("script", u)]) ∧ ∀ base : Heap, (K w.params).In base → base.Ns mainGlobals mg → FnOk l.prog w (K w.params) mg base CX0 k fa fd ["script"] (spScr (K w.params) m)) :
    PySem.W.WalkO q loose XP YP l.row.toRowW d [] (fun f vs => PySem.call f vs) :=
  L2.walk_of (n := 63) (k := k) (x := "script") (CX := fun _ => CX0) (sp := fun w => spScr (K w.params) m) hn (by decide) hdf hr hY F (fun _ _ a ns hl _ hS => ⟨a, ns, rfl, hS, hl, fun _ => rfl⟩) fun _ _ _ _ _ z => z
end PL
/-! PL, part m: what an evaluator does, by wishes. -/
namespace PL
open PySem PySem.Spec PyProof.Rows L2
inductive Sat {α : Type} (r : Res α) (Q : α → Store → Prop) : Prop where
  | mk (a : α) (st : Store) (e : r = .ok a st) (q : Q a st)
inductive SatS (r : SR) (N : PEnv → Store → Prop) (R : PV → Store → Prop) : Prop where
  | nx (env : PEnv) (st : Store) (e : r = .nx env st) (q : N env st)
  | rt (v : PV) (st : Store) (e : r = .rt v st) (q : R v st)
section
variable {α β : Type} {Q Q' : α → Store → Prop} {N N' : PEnv → Store → Prop} {R R' : PV → Store → Prop} {env : PEnv} {st : Store}
theorem Sat.mono {r : Res α} (h : Sat r Q) (i : ∀ a s, Q a s → Q' a s) : Sat r Q' := by
  obtain ⟨a, s, e, q⟩ := h
  exact ⟨a, s, e, i _ _ q⟩
theorem SatS.mono {r : SR} (h : SatS r N R) (i : ∀ e s, N e s → N' e s) (j : ∀ v s, R v s → R' v s) : SatS r N' R' := by
  rcases h with ⟨a, s, e, q⟩ | ⟨a, s, e, q⟩
  · exact .nx a s e (i _ _ q)
  · exact .rt a s e (j _ _ q)
theorem sat_of {r : Res α} {a : α} {s : Store} (e : r = .ok a s) : Sat r Q = Q a s := propext ⟨fun ⟨b, t, e', q⟩ => (by
    rw [e] at e'
    cases e'
    exact q), fun q => ⟨a, s, e, q⟩⟩
theorem sat_ok {a : α} : Sat (.ok a st) Q = Q a st := sat_of rfl
theorem sat_stuck : Sat (.stuck : Res α) Q = False := propext ⟨fun ⟨b, t, e', q⟩ => (by cases e'), False.elim⟩
theorem sat_err {n f} : Sat (.err n f st : Res α) Q = False := propext ⟨fun ⟨b, t, e', q⟩ => (by cases e'), False.elim⟩
theorem ss_nx : SatS (.nx env st) N R = N env st := propext ⟨fun h => (by
    rcases h with ⟨a, s, e, q⟩ | ⟨a, s, e, q⟩
    · cases e; exact q
    · cases e), fun q => SatS.nx _ _ rfl q⟩
theorem ss_rt {v : PV} : SatS (.rt v st) N R = R v st := propext ⟨fun h => (by
    rcases h with ⟨a, s, e, q⟩ | ⟨a, s, e, q⟩
    · cases e
    · cases e; exact q), fun q => SatS.rt _ _ rfl q⟩
theorem ss_bk : SatS (.bk env st) N R = False := propext ⟨fun h => (by rcases h with ⟨a, s, e, q⟩ | ⟨a, s, e, q⟩ <;> cases e), False.elim⟩
theorem ss_ct : SatS (.ct env st) N R = False := propext ⟨fun h => (by rcases h with ⟨a, s, e, q⟩ | ⟨a, s, e, q⟩ <;> cases e), False.elim⟩
theorem ss_err {n f} : SatS (.err env n f st) N R = False := propext ⟨fun h => (by rcases h with ⟨a, s, e, q⟩ | ⟨a, s, e, q⟩ <;> cases e), False.elim⟩
theorem ss_stuck : SatS .stuck N R = False := propext ⟨fun h => (by rcases h with ⟨a, s, e, q⟩ | ⟨a, s, e, q⟩ <;> cases e), False.elim⟩
theorem sat_bind {r : Res β} {k : β → Store → Res α} : Sat (r.bind k) Q = Sat r fun b s => Sat (k b s) Q := by
  cases r with
  | ok a s => rw [sat_ok]; rfl
  | err n f s => rw [sat_err]; exact sat_err
  | stuck => rw [sat_stuck]; exact sat_stuck
theorem sat_ite {c : Prop} [Decidable c] {a b : Res α} (hc : c) (h : Sat a Q) : Sat (if c then a else b) Q := by rw [if_pos hc]; exact h
theorem sat_var {i : Nat} {v : PV} {Q : PV → Store → Prop} (e : env[i]? = some (some v)) : Sat (eVar i env st) Q = Q v st := by unfold eVar; rw [e]; exact sat_ok
theorem sat_v {i : Nat} {Q : PV → Store → Prop} : Sat (eVar i env st) Q = match env[i]? with
    | some (some v) => Q v st
    | _ => False := by
  unfold eVar
  cases env[i]? with
  | none => exact sat_stuck
  | some o => cases o with
    | none => exact sat_stuck
    | some v => exact sat_ok
theorem sat_c {v : PV} {Q : PV → Store → Prop} : Sat (eC v env st) Q = Q v st := sat_ok
theorem sat_bin {p fa fb} {Q : PV → Store → Prop} : Sat (eBin p fa fb env st) Q = Sat (fa env st) fun v s => Sat (fb env s) fun w s => Sat (p v w s) Q := by
  unfold eBin; rw [sat_bind]; simp only [sat_bind]
theorem sat_un {p fa} {Q : PV → Store → Prop} : Sat (eUn p fa env st) Q = Sat (fa env st) fun v s => Sat (p v s) Q := by unfold eUn; rw [sat_bind]
theorem sat_test {f : EM} {Q : Bool → Store → Prop} : Sat (eTest f env st) Q = Sat (f env st) fun v s => Sat (pTruth v s) Q := by unfold eTest; rw [sat_bind]
theorem sat_truth {b : Bool} {Q : Bool → Store → Prop} : Sat (pTruth (.bl b) st) Q = Q b st := sat_ok
theorem sat_and {f g : TM} {Q : Bool → Store → Prop} : Sat (tAndM f g env st) Q = Sat (f env st) fun b s => if b = true then Sat (g env s) Q else Q false s := by
  unfold tAndM; rw [sat_bind]; congr 1; funext b s; split
  · rfl
  · exact sat_ok
theorem sat_or {f g : TM} {Q : Bool → Store → Prop} : Sat (tOrM f g env st) Q = Sat (f env st) fun b s => if b = true then Q true s else Sat (g env s) Q := by
  unfold tOrM; rw [sat_bind]; congr 1; funext b s; split
  · exact sat_ok
  · rfl
theorem sat_not {f : TM} {Q : Bool → Store → Prop} : Sat (tNotM f env st) Q = Sat (f env st) fun b s => Q (!b) s := by unfold tNotM; rw [sat_bind]; congr 1; funext b s; exact sat_ok
theorem sat_yes {Q : Bool → Store → Prop} : Sat (tYesM env st) Q = Q true st := sat_ok
theorem sat_andv {f g : EM} {Q : PV → Store → Prop} : Sat (eAndV f g env st) Q = Sat (f env st) fun v s => match v with
    | .bl true => Sat (g env s) Q
    | .bl false => Q (.bl false) s
    | _ => False := by
  unfold eAndV; rw [sat_bind]; congr 1; funext v s
  cases v with
  | bl b => cases b with
    | true => rfl
    | false => exact sat_ok
  | _ => exact sat_stuck
theorem sat_notv {f : EM} {Q : PV → Store → Prop} : Sat (eNotV f env st) Q = Sat (f env st) fun v s => match v with
    | .bl b => Q (.bl (!b)) s
    | _ => False := by
  unfold eNotV; rw [sat_bind]; congr 1; funext v s
  cases v with
  | bl b => exact sat_ok
  | _ => exact sat_stuck
theorem sat_chain {p p' fa fb fc} {Q : PV → Store → Prop} : Sat (eChain p p' fa fb fc env st) Q = Sat (fa env st) fun v s => Sat (fb env s) fun w s => Sat (p v w s) fun z s => match z with
    | .bl true => Sat (fc env s) fun u s => Sat (p' w u s) Q
    | .bl false => Q (.bl false) s
    | _ => False := by
  unfold eChain; rw [sat_bind]; simp only [sat_bind]
  congr 1; funext v s; congr 1; funext w s; congr 1; funext z s
  cases z with
  | bl b => cases b with
    | true => simp only [sat_bind]
    | false => exact sat_ok
  | _ => exact sat_stuck
theorem sat_nil {Q : List PV → Store → Prop} : Sat (aNil env st) Q = Q [] st := sat_ok
theorem sat_cons {f : EM} {g : AM} {Q : List PV → Store → Prop} : Sat (aCons f g env st) Q = Sat (f env st) fun v s => Sat (g env s) fun vs s => Q (v :: vs) s := by
  unfold aCons; rw [sat_bind]; simp only [sat_bind, sat_ok]
theorem sat_args {p : List PV → Store → Res PV} {fs : AM} {Q : PV → Store → Prop} : Sat (eArgs p fs env st) Q = Sat (fs env st) fun vs s => Sat (p vs s) Q := by unfold eArgs; rw [sat_bind]
theorem sat_noErr {r : Res α} : Sat (noErr r) Q = Sat r Q := by
  cases r with
  | ok a s => rfl
  | err n f s => rw [sat_err]; exact sat_stuck
  | stuck => rfl
theorem sat_call {n : Nat} {m : List PV → Store → Res PV} {fs : AM} {Q : PV → Store → Prop} : Sat (eCall n m fs env st) Q = Sat (fs env st) fun vs s => vs.length = n ∧ Sat (m vs s) Q := by
  unfold eCall; rw [sat_args]; congr 1; funext vs s
  unfold guardN
  by_cases h : vs.length = n
  · rw [if_pos h, eq_iff_iff]; show Sat (noErr (m vs s)) Q ↔ _; rw [sat_noErr]; simp [h]
  · rw [if_neg h, sat_stuck]; simp [h]
theorem sat_callX {n : Nat} {m : List PV → Store → Res PV} {fs : AM} {Q : PV → Store → Prop} : Sat (eCallX n m fs env st) Q = Sat (fs env st) fun vs s => vs.length = n ∧ Sat (m vs s) Q := by
  unfold eCallX; rw [sat_args]; congr 1; funext vs s
  unfold guardN
  by_cases h : vs.length = n
  · rw [if_pos h, eq_iff_iff]; simp [h]
  · rw [if_neg h, sat_stuck]; simp [h]
theorem sat_meth {ty p fo fs} {Q : PV → Store → Prop} : Sat (eMeth ty p fo fs env st) Q = Sat (fo env st) fun v s => ty v s = true ∧ Sat (fs env s) fun vs s => Sat (p v vs s) Q := by
  unfold eMeth; rw [sat_bind]; congr 1; funext v s
  by_cases h : ty v s = true
  · rw [if_pos h, sat_bind]; simp [h]
  · rw [if_neg h, sat_stuck]; simp [h]
theorem sat_one {p : PV → Store → Res PV} {v : PV} {Q : PV → Store → Prop} : Sat (one p [v] st) Q = Sat (p v st) Q := rfl
theorem sat_oNone {Q : Option Int → Store → Prop} : Sat (oNone env st) Q = Q none st := sat_ok
theorem sat_oSome {f : EM} {Q : Option Int → Store → Prop} : Sat (oSome f env st) Q = Sat (f env st) fun v s => match v with
    | .int i => Q (some i) s
    | _ => False := by
  unfold oSome; rw [sat_bind]; congr 1; funext v s
  cases v with
  | int i => exact sat_ok
  | _ => exact sat_stuck
theorem sat_sl {p f l u} {Q : PV → Store → Prop} : Sat (eSl p f l u env st) Q = Sat (f env st) fun v s => Sat (l env s) fun lo s => Sat (u env s) fun hi s => Sat (p v lo hi s) Q := by
  unfold eSl; rw [sat_bind]; simp only [sat_bind]
theorem sat_tup {vs : List PV} {Q : PV → Store → Prop} : Sat (mkTup vs st) Q = (vs.length ≤ sizeLine ∧ Q (.tup vs) st) := by
  unfold mkTup
  by_cases h : vs.length ≤ sizeLine
  · rw [if_pos h, sat_ok]; simp [h]
  · rw [if_neg h, sat_stuck]; simp [h]
theorem sat_lst {vs : List PV} {Q : PV → Store → Prop} : Sat (mkLst vs st) Q = (vs.length ≤ sizeLine ∧ Q (.lst vs) st) := by
  unfold mkLst
  by_cases h : vs.length ≤ sizeLine
  · rw [if_pos h, sat_ok]; simp [h]
  · rw [if_neg h, sat_stuck]; simp [h]
theorem sat_loc {vs : List PV} {Q : PV → Store → Prop} : Sat (mkLoc vs st) Q = (vs.length ≤ sizeLine ∧ Q (.loc st.length) (st ++ [.lst vs])) := by
  unfold mkLoc
  by_cases h : vs.length ≤ sizeLine
  · rw [if_pos h, sat_ok]; simp [h]
  · rw [if_neg h, sat_stuck]; simp [h]
/-! statements -/
theorem ss_nil : SatS (sNil env st) N R = N env st := ss_nx
theorem ss_seq {f g : SM} : SatS (sSeq f g env st) N R = SatS (f env st) (fun e s => SatS (g e s) N R) R := by
  unfold sSeq
  cases f env st with
  | nx e s => rw [ss_nx]
  | rt v s => rw [ss_rt]; exact ss_rt.symm
  | bk e s => rw [ss_bk]; exact ss_bk.symm
  | ct e s => rw [ss_ct]; exact ss_ct.symm
  | err e n f s => rw [ss_err]; exact ss_err.symm
  | stuck => rw [ss_stuck]; exact ss_stuck.symm
theorem ss_of {r : Res α} {k : α → Store → SR} : SatS (sOf r env k) N R = Sat r fun a s => SatS (k a s) N R := by
  cases r with
  | ok a s => rw [sat_ok]; rfl
  | err n f s => rw [sat_err]; exact ss_err
  | stuck => rw [sat_stuck]; exact ss_stuck
theorem ss_set {i : Nat} {f : EM} : SatS (sSet i f env st) N R = Sat (f env st) fun v s => N (env.set i (some v)) s := by unfold sSet; rw [ss_of]; simp only [ss_nx]
theorem ss_expr {f : EM} : SatS (sExpr f env st) N R = Sat (f env st) fun v s => N env s := by unfold sExpr; rw [ss_of]; simp only [ss_nx]
theorem ss_ret {f : EM} : SatS (sRet f env st) N R = Sat (f env st) R := by unfold sRet; rw [ss_of]; simp only [ss_rt]
theorem ss_retN : SatS (sRetN env st) N R = R .non st := ss_rt
theorem ss_if {c : TM} {f g : SM} : SatS (sIf c f g env st) N R = Sat (c env st) fun b s => if b = true then SatS (f env s) N R else SatS (g env s) N R := by
  unfold sIf; rw [ss_of]; congr 1; funext b s; split <;> rfl
theorem ss_tg {tg : Tg} {f : EM} : SatS (sTg tg f env st) N R = Sat (f env st) fun v s => ∃ e, setTg tg v env = some e ∧ N e s := by
  unfold sTg; rw [ss_of]; congr 1; funext v s
  cases setTg tg v env with
  | none => rw [ss_stuck]; simp
  | some e => rw [ss_nx]; simp
theorem ss_par {i j : Nat} {fs : AM} : SatS (sPar i j fs env st) N R = Sat (fs env st) fun vs s => match vs with
    | [v, w] => N ((env.set i (some v)).set j (some w)) s
    | _ => False := by
  unfold sPar; rw [ss_of]; congr 1; funext vs s
  match vs with
  | [] => exact ss_stuck
  | [_] => exact ss_stuck
  | [_, _] => exact ss_nx
  | _ :: _ :: _ :: _ => exact ss_stuck
theorem ss_sub {p fo fi fv} : SatS (sSub p fo fi fv env st) N R = Sat (fv env st) fun v s => Sat (fo env s) fun o s => Sat (fi env s) fun i s => Sat (p o i v s) fun _ s => N env s := by
  unfold sSub; rw [ss_of]; simp only [ss_of, ss_nx]
theorem ss_for {it : IM} {tg : Tg} {body : SM} : SatS (sFor it tg body env st) N R = Sat (it env st) fun p s => SatS (sForL tg body p.ok p.xs env s) N R := by unfold sFor; rw [ss_of]
theorem ss_forL_nil {tg : Tg} {body : SM} {ok : Store → Prop} (h : ok st) : SatS (sForL tg body ok [] env st) N R = N env st := by unfold sForL; rw [if_pos h]; exact ss_nx
theorem ss_forL_cons {tg : Tg} {body : SM} {ok : Store → Prop} {v : PV} {r : List PV} (ho : ok st) (h : ∃ e, setTg tg v env = some e ∧ SatS (body e st) (fun e s => SatS (sForL tg body ok r e s) N R) R) : SatS (sForL tg body ok (v :: r) env st) N R := by
  obtain ⟨e, h1, h2⟩ := h
  unfold sForL
  rw [if_pos ho, h1]
  show SatS (match body e st with
      | .nx e s => sForL tg body ok r e s
      | .ct e s => sForL tg body ok r e s
      | .bk e s => .nx e s
      | .rt v s => .rt v s
      | .err e n fs s => .err e n fs s
      | .stuck => .stuck) N R
  cases q : body e st with
  | nx e' s => rw [q, ss_nx] at h2; exact h2
  | rt v s => rw [q, ss_rt] at h2; exact .rt _ _ rfl h2
  | bk e' s => rw [q, ss_bk] at h2; exact False.elim h2
  | ct e' s => rw [q, ss_ct] at h2; exact False.elim h2
  | err e' n f s => rw [q, ss_err] at h2; exact False.elim h2
  | stuck => rw [q, ss_stuck] at h2; exact False.elim h2
/-- a for by an invariant of the number of items done -/
theorem for_invC {tg : Tg} {body : SM} {ok : Store → Prop} (I : Nat → PEnv → Store → Prop) : ∀ {xs : List PV} {k : Nat} {env : PEnv} {st : Store}, I k env st →
    (∀ i v env st, xs[i]? = some v → I (k + i) env st → ∃ e, setTg tg v env = some e ∧ SatS (body e st) (I (k + i + 1)) R) →
    (∀ env st, I (k + xs.length) env st → N env st) → (∀ i env st, I i env st → ok st) → SatS (sForL tg body ok xs env st) N R
  | [], k, env, st, h0, _, hd, ho => by rw [ss_forL_nil (ho _ _ _ h0)]; exact hd env st (by simpa using h0)
  | v :: r, k, env, st, h0, hs, hd, ho => by
    obtain ⟨e, h1, h2⟩ := hs 0 v env st (by simp) (by simpa using h0)
    refine ss_forL_cons (ho _ _ _ h0) ⟨e, h1, h2.mono (fun e' s' h' => ?_) fun _ _ z => z⟩
    refine for_invC I (k := k + 1) (by simpa using h') (fun i w e s m q => ?_) (fun e s q => hd e s (by simpa [Nat.add_assoc, Nat.add_comm 1] using q)) ho
    have := hs (i + 1) w e s (by simpa using m) (by simpa [Nat.add_assoc, Nat.add_comm 1] using q)
    simpa [Nat.add_assoc, Nat.add_comm 1] using this
theorem for_invN {tg : Tg} {body : SM} {ok : Store → Prop} (I : Nat → PEnv → Store → Prop) {xs : List PV} {k : Nat} {env : PEnv} {st : Store} (h0 : I k env st)
    (hs : ∀ i v env st, xs[i]? = some v → I (k + i) env st → ∃ e, setTg tg v env = some e ∧ SatS (body e st) (I (k + i + 1)) R)
    (hd : ∀ env st, I (k + xs.length) env st → N env st) (ho : ∀ i env st, I i env st → ok st := by intros; exact True.intro) : SatS (sForL tg body ok xs env st) N R := for_invC I h0 hs hd ho
/-- a for whose invariant doesn't tell the items -/
theorem for_inv0 {tg : Tg} {body : SM} {ok : Store → Prop} (I : PEnv → Store → Prop) {xs : List PV} {env : PEnv} {st : Store} (h0 : I env st)
    (hs : ∀ v env st, v ∈ xs → I env st → ∃ e, setTg tg v env = some e ∧ SatS (body e st) I R) (hd : ∀ env st, I env st → N env st) (ho : ∀ env st, I env st → ok st := by intros; exact True.intro) : SatS (sForL tg body ok xs env st) N R :=
  for_invN (fun _ => I) (k := 0) h0 (fun i v e s m q => hs v e s (List.mem_of_getElem? m) q) (fun e s i => hd e s i) (fun _ => ho)
/-! comprehensions -/
theorem sat_comp {loc own it tg test elt} {Q : PV → Store → Prop} : Sat (eCompG loc own it tg test elt env st) Q = Sat (it env st) fun p s => Sat (compL tg test elt p.ok p.xs (wipeP env own) s []) fun ys s => Sat (fin loc ys s) Q := by
  unfold eCompG; rw [sat_bind]; simp only [sat_bind]
/-- a comprehension by an invariant: what is made so far -/
theorem comp_invC {tg : Tg} {test : TM} {elt : EM} {ok : Store → Prop} {Q : List PV → Store → Prop} (I : Nat → List PV → Store → Prop) : ∀ {xs : List PV} {k : Nat} {env : PEnv} {st : Store} {acc : List PV}, I k acc st →
    (∀ i v st acc, xs[i]? = some v → I (k + i) acc st → ∃ e, setTg tg v env = some e ∧ Sat (test e st) fun b s => if b = true then Sat (elt e s) fun y s => acc.length < sizeLine ∧ I (k + i + 1) (acc ++ [y]) s else I (k + i + 1) acc s) →
    (∀ acc st, I (k + xs.length) acc st → Q acc st) → (∀ i acc st, I i acc st → ok st) → Sat (compL tg test elt ok xs env st acc) Q
  | [], k, env, st, acc, h0, _, hd, ho => by
    unfold compL
    rw [if_pos (ho _ _ _ h0)]
    exact ⟨_, _, rfl, hd acc st (by simpa using h0)⟩
  | v :: r, k, env, st, acc, h0, hs, hd, ho => by
    obtain ⟨e, h1, h2⟩ := hs 0 v st acc (by simp) (by simpa using h0)
    unfold compL
    rw [if_pos (ho _ _ _ h0), h1]
    show Sat ((noErr (test e st)).bind _) Q
    rw [sat_bind, sat_noErr]
    have nxt : ∀ acc' s, I (k + 0 + 1) acc' s → Sat (compL tg test elt ok r env s acc') Q := fun acc' s h' => by
      refine comp_invC I (k := k + 1) (by simpa using h') (fun i w s a m q => ?_) (fun a s q => hd a s (by simpa [Nat.add_assoc, Nat.add_comm 1] using q)) ho
      have := hs (i + 1) w s a (by simpa using m) (by simpa [Nat.add_assoc, Nat.add_comm 1] using q)
      simpa [Nat.add_assoc, Nat.add_comm 1] using this
    refine h2.mono fun b s h3 => ?_
    cases b with
    | false => simpa using nxt _ _ (by simpa using h3)
    | true =>
      have h3 : Sat (elt e s) fun y s => acc.length < sizeLine ∧ I (k + 0 + 1) (acc ++ [y]) s := by simpa using h3
      show Sat (if true = true then _ else _) Q
      rw [if_pos rfl, sat_bind, sat_noErr]
      refine h3.mono fun y s2 h4 => ?_
      rw [if_pos h4.1]
      exact nxt _ _ h4.2
theorem comp_inv {tg : Tg} {test : TM} {elt : EM} {ok : Store → Prop} {Q : List PV → Store → Prop} (I : Nat → List PV → Store → Prop) {xs : List PV} {k : Nat} {env : PEnv} {st : Store} {acc : List PV} (h0 : I k acc st)
    (hs : ∀ i v st acc, xs[i]? = some v → I (k + i) acc st → ∃ e, setTg tg v env = some e ∧ Sat (test e st) fun b s => if b = true then Sat (elt e s) fun y s => acc.length < sizeLine ∧ I (k + i + 1) (acc ++ [y]) s else I (k + i + 1) acc s)
    (hd : ∀ acc st, I (k + xs.length) acc st → Q acc st) (ho : ∀ i acc st, I i acc st → ok st := by intros; exact True.intro) : Sat (compL tg test elt ok xs env st acc) Q := comp_invC I h0 hs hd ho
/-- a def -/
theorem sat_body {n : Nat} {f : SM} {args : List PV} {Q : PV → Store → Prop} (h : SatS (f (args.map some ++ List.replicate (n - args.length) none) st) (fun _ s => Q .non s) Q) : Sat (runBody n f args st) Q := by
  unfold runBody
  rcases h with ⟨a, s, e, q⟩ | ⟨a, s, e, q⟩
  · rw [e]; exact ⟨_, _, rfl, q⟩
  · rw [e]; exact ⟨_, _, rfl, q⟩
theorem Sat.elim {r : Res α} (h : Sat r Q) : ∃ a s, r = .ok a s ∧ Q a s := by
  obtain ⟨a, s, e, q⟩ := h
  exact ⟨a, s, e, q⟩
end
end PL
/-! PL, part o: what the operators are worth at given kinds. -/
namespace PL
open PySem PySem.Spec PyProof.Rows L2
theorem nabs {n : Nat} : Int.natAbs (no_index (OfNat.ofNat n)) = n := rfl
section
variable {Q : PV → Store → Prop} {st : Store} {i j : Int} {x y : Str} {a b : Bool} {xs ys : List PV}
theorem eq_if {α : Type} {c : Prop} [Decidable c] {r : Res α} {Q : α → Store → Prop} : Sat (if c then r else .stuck) Q = (c ∧ Sat r Q) := by
  by_cases h : c
  · rw [if_pos h, eq_iff_iff]; simp [h]
  · rw [if_neg h, sat_stuck]; simp [h]
theorem o_addI : Sat (pAdd (.int i) (.int j) st) Q = Q (.int (i + j)) st := sat_of rfl
theorem o_addS : Sat (pAdd (.str x) (.str y) st) Q = (x.length + y.length ≤ sizeLine ∧ Q (.str (x ++ y)) st) := by show Sat (if _ then _ else _) Q = _; rw [eq_if, sat_ok]
theorem o_addT : Sat (pAdd (.tup xs) (.tup ys) st) Q = (xs.length + ys.length ≤ sizeLine ∧ Q (.tup (xs ++ ys)) st) := by show Sat (if _ then _ else _) Q = _; rw [eq_if, sat_ok]
theorem o_addL : Sat (pAdd (.lst xs) (.lst ys) st) Q = (xs.length + ys.length ≤ sizeLine ∧ Q (.lst (xs ++ ys)) st) := by show Sat (if _ then _ else _) Q = _; rw [eq_if, sat_ok]
theorem o_subI : Sat (pSub (.int i) (.int j) st) Q = Q (.int (i - j)) st := sat_of rfl
theorem o_mulI : Sat (pMul (.int i) (.int j) st) Q = (((i.natAbs < 2 ^ 64 ∨ j.natAbs < 2 ^ 64) ∨ i.natAbs.log2 + j.natAbs.log2 < 1000000) ∧ Q (.int (i * j)) st) := by show Sat (if _ then _ else _) Q = _; rw [eq_if, sat_ok]
theorem o_fdivI : Sat (pFdiv (.int i) (.int j) st) Q = ((0 < j ∧ j.natAbs.log2 < 9000) ∧ Q (.int (i / j)) st) := by show Sat (if _ then _ else _) Q = _; rw [eq_if, sat_ok]
theorem o_modI : Sat (pMod (.int i) (.int j) st) Q = (0 < j ∧ Q (.int (i % j)) st) := by show Sat (if _ then _ else _) Q = _; rw [eq_if, sat_ok]
theorem o_powI : Sat (pPow (.int i) (.int j) st) Q = ((0 ≤ j ∧ j ≤ 1000000 ∧ i.natAbs < 2 ^ 64) ∧ Q (.int (i ^ j.toNat)) st) := by show Sat (if _ then _ else _) Q = _; rw [eq_if, sat_ok]
theorem o_negI : Sat (pNeg (.int i) st) Q = Q (.int (-i)) st := sat_of rfl
theorem o_eqI : Sat (pEq (.int i) (.int j) st) Q = Q (.bl (decide (i = j))) st := by
  unfold pEq
  rw [if_pos (by simp [isD, toD, PyData.depth])]
  simp only [toD, PyData.eqv, sat_ok]
  first | rfl | (congr 2; simp [beq_eq_decide])
theorem o_neI : Sat (pNe (.int i) (.int j) st) Q = Q (.bl (!decide (i = j))) st := by
  unfold pNe
  rw [if_pos (by simp [isD, toD, PyData.depth])]
  simp only [toD, PyData.eqv, sat_ok]
  first | rfl | (congr 2; simp [beq_eq_decide])
theorem o_eqS : Sat (pEq (.str x) (.str y) st) Q = Q (.bl (decide (x = y))) st := by
  unfold pEq
  rw [if_pos (by simp [isD, toD, PyData.depth])]
  simp only [toD, PyData.eqv, sat_ok]
  first | rfl | (congr 2; simp [beq_eq_decide])
theorem o_neS : Sat (pNe (.str x) (.str y) st) Q = Q (.bl (!decide (x = y))) st := by
  unfold pNe
  rw [if_pos (by simp [isD, toD, PyData.depth])]
  simp only [toD, PyData.eqv, sat_ok]
  first | rfl | (congr 2; simp [beq_eq_decide])
theorem dlt_int : PySem.W.dataLt (.int i) (.int j) = decide (i < j) := by
  unfold PySem.W.dataLt
  simp only [PySem.W.keyToks]
  rw [PySem.W.lex_one]
  first | rfl | simp [PySem.W.itemLt]
theorem ord_int : OrdOk (.int i) (.int j) := by
  refine ⟨by simp [isD], by simp [isD], by simp [toD, PySem.W.alike], rfl, by simp [toD, PyData.depth]⟩
theorem ord_str : OrdOk (.str x) (.str y) := by
  refine ⟨by simp [isD], by simp [isD], by simp [toD, PySem.W.alike], rfl, by simp [toD, PyData.depth]⟩
theorem o_ltI : Sat (pLt (.int i) (.int j) st) Q = Q (.bl (decide (i < j))) st := by
  unfold pLt; rw [if_pos ord_int]; simp only [toD, dlt_int, sat_ok]
theorem o_gtI : Sat (pGt (.int i) (.int j) st) Q = Q (.bl (decide (j < i))) st := by
  unfold pGt; rw [if_pos ord_int]; simp only [toD, dlt_int, sat_ok]
theorem o_leI : Sat (pLe (.int i) (.int j) st) Q = Q (.bl (!decide (j < i))) st := by
  unfold pLe; rw [if_pos ord_int]; simp only [toD, dlt_int, sat_ok]
theorem o_geI : Sat (pGe (.int i) (.int j) st) Q = Q (.bl (!decide (i < j))) st := by
  unfold pGe; rw [if_pos ord_int]; simp only [toD, dlt_int, sat_ok]
def strLt (x y : Str) : Bool := PySem.W.dataLt (.str x) (.str y)
theorem o_ltS : Sat (pLt (.str x) (.str y) st) Q = Q (.bl (strLt x y)) st := by
  unfold pLt; rw [if_pos ord_str]; simp only [toD, strLt, sat_ok]
theorem o_geS : Sat (pGe (.str x) (.str y) st) Q = Q (.bl (!strLt x y)) st := by
  unfold pGe; rw [if_pos ord_str]; simp only [toD, strLt, sat_ok]
theorem o_inS : Sat (pIn (.str x) (.str y) st) Q = Q (.bl (inStr x y)) st := sat_of rfl
theorem o_notInS : Sat (pNotIn (.str x) (.str y) st) Q = Q (.bl (!inStr x y)) st := sat_of rfl
theorem o_isN : Sat (pIs .non .non st) Q = Q (.bl true) st := sat_of rfl
theorem o_isNotN : Sat (pIsNot .non .non st) Q = Q (.bl false) st := sat_of rfl
theorem o_isT : Sat (pIs (.tup xs) .non st) Q = Q (.bl false) st := sat_of rfl
theorem o_isNotT : Sat (pIsNot (.tup xs) .non st) Q = Q (.bl true) st := sat_of rfl
theorem o_isS : Sat (pIs (.str x) .non st) Q = Q (.bl false) st := sat_of rfl
theorem o_isNotS : Sat (pIsNot (.str x) .non st) Q = Q (.bl true) st := sat_of rfl
theorem o_int : Sat (pInt (.int i) st) Q = Q (.int i) st := sat_of rfl
theorem o_intB : Sat (pInt (.bl a) st) Q = Q (.int (if a then 1 else 0)) st := sat_of rfl
theorem o_abs : Sat (pAbs (.int i) st) Q = Q (.int (if i < 0 then -i else i)) st := sat_of rfl
theorem o_str : Sat (pStr (.int i) st) Q = (i.natAbs.log2 < 1920 ∧ Q (.str (strInt i)) st) := by show Sat (if _ then _ else _) Q = _; rw [eq_if, sat_ok]
theorem o_lenT : Sat (pLen (.tup xs) st) Q = Q (.int xs.length) st := sat_of rfl
theorem o_lenL : Sat (pLen (.lst xs) st) Q = Q (.int xs.length) st := sat_of rfl
theorem o_lenF : Sat (pLen (.frz xs) st) Q = Q (.int xs.length) st := sat_of rfl
theorem o_lenS : Sat (pLen (.str x) st) Q = (x.length ≤ sizeLine ∧ Q (.int x.length) st) := by show Sat (if _ then _ else _) Q = _; rw [eq_if, sat_ok]
/-- what an index gives -/
def ixW (xs : List PV) (i : Int) (Q : PV → Prop) : Prop := match atI xs i with
  | some y => Q y
  | none => False
theorem o_ixT : Sat (pIx (.tup xs) (.int i) st) Q = ixW xs i fun y => Q y st := by
  show Sat (match atI xs i with | some y => .ok y st | none => .stuck) Q = _
  unfold ixW; cases atI xs i with
  | none => exact sat_stuck
  | some y => exact sat_ok
theorem o_ixL : Sat (pIx (.lst xs) (.int i) st) Q = ixW xs i fun y => Q y st := by
  show Sat (match atI xs i with | some y => .ok y st | none => .stuck) Q = _
  unfold ixW; cases atI xs i with
  | none => exact sat_stuck
  | some y => exact sat_ok
theorem o_ixF : Sat (pIx (.frz xs) (.int i) st) Q = ixW xs i fun y => Q y st := by
  show Sat (match atI xs i with | some y => .ok y st | none => .stuck) Q = _
  unfold ixW; cases atI xs i with
  | none => exact sat_stuck
  | some y => exact sat_ok
theorem o_ixP {l : Nat} (h : st[l]? = some (.lst xs)) : Sat (pIx (.loc l) (.int i) st) Q = ixW xs i fun y => Q y st := by
  have e : seqOf st (.loc l) = some (false, xs) := by unfold seqOf; simp only [h]
  show Sat (match seqOf st (.loc l) with | some (_, xs) => (match atI xs i with | some y => .ok y st | none => .stuck) | none => .stuck) Q = _
  rw [e]
  unfold ixW; show Sat (match atI xs i with | some y => .ok y st | none => .stuck) Q = _; cases atI xs i with
  | none => exact sat_stuck
  | some y => exact sat_ok
theorem ixW_of {k : Nat} {y : PV} {P : PV → Prop} (h : xs[k]? = some y) (p : P y) : ixW xs (k : Int) P := by
  have hk : k < xs.length := (List.getElem?_eq_some_iff.mp h).1
  unfold ixW atI ixN
  rw [if_pos (by omega), if_pos (by omega)]
  simp only [Int.toNat_natCast, Option.bind_some, h]
  exact p
theorem ixW_in {i : Int} {P : PV → Prop} (h0 : 0 ≤ i) (h1 : i < xs.length) (p : ∀ y, xs[i.toNat]? = some y → P y) : ixW xs i P := by
  obtain ⟨k, rfl⟩ := Int.eq_ofNat_of_zero_le h0
  have hk : k < xs.length := by omega
  exact ixW_of (List.getElem?_eq_getElem hk) (p _ (by simp [List.getElem?_eq_getElem hk]))
theorem ixW_0 {P : PV → Prop} {v : PV} : ixW (v :: xs) 0 P = P v := by
  have : (0 : Int) < ((v :: xs).length : Int) := by simp only [List.length_cons]; omega
  unfold ixW atI ixN
  rw [if_pos (by omega), if_pos this]
  rfl
theorem ixW_1 {P : PV → Prop} {v w : PV} : ixW (v :: w :: xs) 1 P = P w := by
  have : (1 : Int) < ((v :: w :: xs).length : Int) := by simp; omega
  unfold ixW atI ixN
  rw [if_pos (by omega), if_pos this]
  rfl
theorem ixW_2 {P : PV → Prop} {v w u : PV} : ixW (v :: w :: u :: xs) 2 P = P u := by
  have : (2 : Int) < ((v :: w :: u :: xs).length : Int) := by simp; omega
  unfold ixW atI ixN
  rw [if_pos (by omega), if_pos this]
  rfl
theorem o_set {l : Nat} {v : PV} {Q : Unit → Store → Prop} (h : st[l]? = some (.lst xs)) : Sat (pSet (.loc l) (.int i) v st) Q = match ixN xs.length i with
    | some j => Q () (st.set l (.lst (xs.set j v)))
    | none => False := by
  unfold pSet
  simp only
  rw [h]
  simp only
  cases ixN xs.length i with
  | none => exact sat_stuck
  | some y => exact sat_ok
theorem o_app {l : Nat} {v : PV} (h : st[l]? = some (.lst xs)) : Sat (pAppend (.loc l) [v] st) Q = (xs.length < sizeLine ∧ Q .non (st.set l (.lst (xs ++ [v])))) := by
  unfold pAppend
  simp only
  rw [h]
  simp only
  rw [eq_if, sat_ok]
theorem o_isL {l : Nat} (h : st[l]? = some (.lst xs)) : isListP (.loc l) st = true := by
  unfold isListP; simp only [h]
theorem o_isStr : isStrP (.str x) st = true := rfl
theorem o_lenP {l : Nat} (h : st[l]? = some (.lst xs)) : Sat (pLen (.loc l) st) Q = Q (.int xs.length) st := by
  have e : seqOf st (.loc l) = some (false, xs) := by unfold seqOf; simp only [h]
  unfold pLen
  simp only
  rw [e]; exact sat_ok
theorem o_tupL : Sat (pTuple (.lst xs) st) Q = Q (.tup xs) st := sat_of rfl
theorem o_tupT : Sat (pTuple (.tup xs) st) Q = Q (.tup xs) st := sat_of rfl
theorem o_tupP {l : Nat} (h : st[l]? = some (.lst xs)) : Sat (pTuple (.loc l) st) Q = Q (.tup xs) st := by
  have e : seqOf st (.loc l) = some (false, xs) := by unfold seqOf; simp only [h]
  unfold pTuple
  rw [e]; exact sat_ok
theorem o_listT : Sat (pList (.tup xs) st) Q = Q (.lst xs) st := sat_of rfl
theorem o_listL : Sat (pList (.lst xs) st) Q = Q (.lst xs) st := sat_of rfl
theorem o_listLocT : Sat (pListLoc (.tup xs) st) Q = Q (.loc st.length) (st ++ [.lst xs]) := sat_of rfl
theorem o_gcd : Sat (pGcd [.int i, .int j] st) Q = Q (.int ((Nat.gcd i.natAbs j.natAbs : Nat) : Int)) st := sat_of rfl
theorem o_bits : Sat (pBits (.int i) st) Q = Q (.int (Builtin.Int.intBits i : Nat)) st := sat_of rfl
theorem o_finF : Sat (fin false xs st) Q = Q (.lst xs) st := sat_of rfl
theorem o_finT : Sat (fin true xs st) Q = Q (.loc st.length) (st ++ [.lst xs]) := sat_of rfl
/-! walks -/
variable {Qx : Itms → Store → Prop}
theorem sat_iVal {f : EM} {env : PEnv} : Sat (iVal f env st) Qx = Sat (f env st) fun v s => Sat (pIter v s) Qx := by unfold iVal; rw [sat_bind]
theorem sat_iEnum {f : EM} {env : PEnv} : Sat (iEnumM f env st) Qx = Sat (f env st) fun v s => Sat (pEnum v s) Qx := by unfold iEnumM; rw [sat_bind]
theorem sat_iRange1 {f : EM} {env : PEnv} : Sat (iRange1 f env st) Qx = Sat (f env st) fun v s => Sat (pRange1 [v] s) Qx := by
  unfold iRange1; rw [sat_bind, sat_cons]; simp only [sat_nil]
theorem sat_iRange2 {f g : EM} {env : PEnv} : Sat (iRange2 f g env st) Qx = Sat (f env st) fun v s => Sat (g env s) fun w s => Sat (pRange2 [v, w] s) Qx := by
  unfold iRange2; rw [sat_bind, sat_cons]; simp only [sat_cons, sat_nil]
theorem o_itT : Sat (pIter (.tup xs) st) Qx = Qx ⟨xs, none⟩ st := sat_of rfl
theorem o_itL : Sat (pIter (.lst xs) st) Qx = Qx ⟨xs, none⟩ st := sat_of rfl
theorem o_itF : Sat (pIter (.frz xs) st) Qx = Qx ⟨xs, none⟩ st := sat_of rfl
theorem o_itS : Sat (pIter (.str x) st) Qx = Qx ⟨signs x, none⟩ st := sat_of rfl
theorem o_itP {l : Nat} (h : st[l]? = some (.lst xs)) : Sat (pIter (.loc l) st) Qx = Qx ⟨xs, some (l, xs)⟩ st := by
  unfold pIter
  simp only
  rw [h]
  exact sat_ok
theorem o_enT : Sat (pEnum (.tup xs) st) Qx = Qx ⟨enums xs, none⟩ st := sat_of rfl
theorem o_rng : Sat (pRange1 [.int j] st) Qx = ((-(2 ^ 62) ≤ j ∧ j < 2 ^ 62) ∧ Qx ⟨rngs 0 j.toNat, none⟩ st) := by show Sat (if _ then _ else _) Qx = _; rw [eq_if, sat_ok]
end
end PL
/-! PL, part i: more of exceptions: classes without fields, several clauses; what is never reached; list.index. -/
namespace PL
open PySem PySem.Spec PyProof.Rows L2
/-! ### what is never reached -/
def sStuckM : SM := fun _ _ => .stuck
theorem ms_stuck {X : Cx} {W : WX} {s : Stmt} : MS X W s sStuckM := ⟨fun _ _ _ _ _ _ ⟨_, _, _, _, _, h⟩ => False.elim h⟩
def eStuckM : EM := fun _ _ => .stuck
theorem me_stuck {X : Cx} {W : WX} {e : Expr} : ME X W e eStuckM := ⟨fun _ _ _ _ _ _ ⟨_, _, _, _, _, h⟩ => False.elim h⟩
/-! ### raise of an own class without an __init__ -/
structure X0 (K : PySem.W.Frag) (mg : Str → Option Value) (x : Str) (C : Addr) : Prop where
  gC : mg x = some (.ref C)
  q : PySem.W.excIn K C [.type "ValueError", .type "Exception", .type "BaseException", .type "object"] "ValueError.__new__" = true
  kC : PySem.W.keepIn K (.ref C) = true
  exC : PySem.W.subIn K (.ref C) (.type "BaseException") = some true
  tyC : PySem.W.typeIn K (.ref C) = some (.type "type")
def sRaise0 (x : Str) (fs : AM) : SM := fun env st => sOf (fs env st) env fun vs st1 => if vs.length ≤ sizeLine then .err env x none st1 else .stuck
section
variable {X : Cx} {W : WX} {C : Addr} {x : Str} {e : Expr} {es : List Expr} {fs : AM} {p pos pos2 : Pos}
theorem ms_raise0 (hc : X.calm = true) (tk : Takes X W) (T : X0 X.K X.mg x C) (ha : MA X W (e :: es) fs) (hg : Gl X x := by rfl) (hdb : (x == ("__debug__" : Str)) = false := by decide)
    (he : starEach (e :: es) X.env = (false, eval e X.env) :: starEach es X.env := by rfl) (hpl : (backTo pos (starEach es X.env)).any (·.1) = false := by rfl) :
    MS X W (.Raise (some (.Call (.Name x p) (e :: es) [] pos)) none pos2) (sRaise0 x fs) := by
  refine psI (ps_raise hc tk (pmk_ownA PySem.F.excBase_ValueError T.q T.gC T.kC (raises_own T.exC T.tyC) hg ha (hdb := hdb) (he := he) (hpl := hpl))) ?_
  rintro D σ H ⟨ω, st, env, wd, re, h⟩
  refine ⟨ω, st, env, wd, re, (h.bind (Rel := RL X.K) re).mono ?_⟩
  rintro y H1 ⟨ω1, st1, vs, e1, wd1, r1, h1⟩
  split at h1
  · rename_i hz
    exact ⟨by rw [← r1.length]; exact hz, h1 ω1 H1 σ none (.ref C) (.refl _ _) wd1 (re.mono e1.le) T.gC rfl⟩
  · exact False.elim h1
end
/-! ### try with clauses, each `except x as n` -/
/-- a clause: the class's name, the slot of the name, the suite (a: the error, d: its dict) -/
structure Cl where
  x : Str
  i : Nat
  fs : Nat → Option Nat → SM
def excV (a : Nat) (d : Option Nat) : Option (List (Str × PV)) → PV
  | some fl => .exc a (d.getD 0) (fl.map (·.1)) (fl.map (·.2))
  | none => .con (.ref a)
def hasF : Option (List (Str × PV)) → Nat → Option Nat
  | some _, d => some d
  | none, _ => none
def clRun (c : Cl) (fl : Option (List (Str × PV))) (env : PEnv) (st : Store) : Nat → Nat → SR := fun a d => unsetR c.i (c.fs a (hasF fl d) (env.set c.i (some (excV a (hasF fl d) fl))) st)
noncomputable def clPick (n : Str) (fl : Option (List (Str × PV))) (env : PEnv) (st : Store) : List Cl → SR
  | [] => .stuck
  | c :: r => if n = c.x then anyAd (clRun c fl env st) else clPick n fl env st r
noncomputable def sTryM (cs : List Cl) (fb : SM) : SM := fun env st => match fb env st with
  | .err env' n fl st' => clPick n fl env' st' cs
  | r => r
abbrev DEnd (D : Ends) (i : Nat) : Ends := { nx := fun σ' H' => D.nx (σ'.set i none) H', rt := D.rt, bk := fun σ' H' => D.bk (σ'.set i none) H', ct := fun σ' H' => D.ct (σ'.set i none) H' }
/-- what the clauses wish of an error of the body -/
def wAsM (K : PySem.W.Frag) (Wo : WX) (D : Ends) : List (Value × Nat × (Addr → Value → Option Addr → TS)) → WX
  | [] => Wo
  | (c, i, ts) :: r => fun cls d σ H => ∃ b, PySem.W.exmOne K cls c = some b ∧ (b = true → ∀ a, H a = none → ts a cls d (DEnd D i) (σ.set i (some (.ref a))) H) ∧ (b = false → wAsM K Wo D r cls d σ H)
inductive HdAs (X : Cx) : List ExceptHandler → List (Value × Nat × (Addr → Value → Option Addr → TS)) → Prop
  | nil : HdAs X [] []
  | cons {x n : Str} {c : Value} {i : Nat} {ts : Addr → Value → Option Addr → TS} {b₀ : Stmt} {suite : List Stmt} {np hp : Pos} {hds : List ExceptHandler} {l : List (Value × Nat × (Addr → Value → Option Addr → TS))} (hi : X.N[i]? = some n) (hln : X.env.kindOf n = some .local) (hc : Names X x c)
      (su : ∀ (a : Addr) (oe : Obj) (cls : Value) (d : Option Addr) (pn : List (Addr × Obj)), Zc cls d oe → (∃ vs, oe.data = .fields vs) → PSs (X.suite a ((a, oe) :: pn)) (b₀ :: suite) (ts a cls d)) (r : HdAs X hds l) :
      HdAs X (.ExceptHandler (some (.Name x np)) (some n) (b₀ :: suite) hp :: hds) ((c, i, ts) :: l)
section
variable {X : Cx} {body : List Stmt} {h₀ : ExceptHandler} {hds : List ExceptHandler} {l : List (Value × Nat × (Addr → Value → Option Addr → TS))} {pos : Pos} {tb : WX → TS} {Wo : WX}
theorem ps_try_asM (st : X.stack = X.env :: X.outer) (fr : X.env.frame = some X.env.locals) (nd : X.N.Nodup) (tk : Takes X Wo)
    (bd : ∀ (W : WX) (pn : List (Addr × Obj)) (xe : Value → Shared → Prop), Takes (X.tr pn xe) W → PassesOwn (model X.prog X.w) X.A X.env xe → PSs (X.tr pn xe) body (tb W))
    (cl : HdAs X (h₀ :: hds) l) : PS X (.Try body (h₀ :: hds) [] [] pos) (fun D σ H => tb (wAsM X.K Wo D l) D σ H) := by
  constructor
  intro pins s σ H D I h
  have ok := I.ok
  have fr2 : X.A.frames = some (X.env :: X.outer) := ok.frames.trans (by rw [st])
  refine wpAny_Try_except (wpAny_mono ((bd (wAsM X.K Wo D l) (X.pn ++ pins) (fun e t1 => wpAny (model X.prog X.w) X.A (noteFrame e X.env) (fun _ t2 => wpAny (model X.prog X.w) X.A (setFlight e none) (fun _ t3 => wpAny (model X.prog X.w) X.A (handleBy e X.env (h₀ :: hds)) (SP X pins D) X.xe t3) X.xe t2) X.xe t1) (fun u s' xx => ?_) PassesOwn.looking).run [] s σ H D (I.toTry _) h) (fun f s1 q => ?_) fun _ _ z => z)
  · obtain ⟨a, B, sI, pins', σ1, H1, cls, d, rfl, J0, nb, up, sky, na, os, ag, w⟩ := xx
    have J : Inv X pins σ1 H1 sI := J0.ofTry ok
    have sky1 : Sky B (X.env :: X.outer) a (Zc cls d) X.env.locals s'.heap := by have q := sky; rw [st] at q; exact q
    refine (show wpAny (model X.prog X.w) X.A (noteFrame (.ref a) X.env) _ _ _ from Sky.land Zc.steady fr2 fr sky1 fun h3 fl up3 => ?_)
    have J3 : Inv X pins σ1 H1 { s' with heap := h3 } := J.landed nb fl.1 (up.trans up3) os ag
    obtain ⟨oe, vs, ge, ze, de⟩ := fl.there
    have far : ∀ {h : Heap} {o : Obj} {vs : Array Value}, h.FunFrames B (X.env :: X.outer) → h.get? a = some o → o.data = .fields vs → a ∉ frs (X.env :: X.outer) := by
      intro h o vs ff e dd m
      obtain ⟨_, o2, e2, z⟩ := ff.mem m
      cases e.symm.trans e2
      exact z _ dd
    have na2 := far fl.2.2.1 ge de
    have nL : a ≠ X.env.locals := by
      intro z
      exact na2 (List.mem_filterMap.mpr ⟨X.env, List.mem_cons_self, fr.trans (by rw [z])⟩)
    have nF : a ∉ X.fs := by
      intro m
      obtain ⟨e, me, q⟩ := List.mem_filterMap.mp m
      exact na2 (List.mem_filterMap.mpr ⟨e, .tail _ me, q⟩)
    have S3 := J3.suite ge de na nL nF
    have each : ∀ {hd2 : List ExceptHandler} {l2 : List (Value × Nat × (Addr → Value → Option Addr → TS))}, HdAs X hd2 l2 → wAsM X.K Wo D l2 cls d σ1 H1 → wpAny (model X.prog X.w) X.A (handleBy (.ref a) X.env hd2) (SP X pins D) X.xe { s' with heap := h3 } := by
      intro hd2 l2 k
      induction k with
      | nil =>
        intro w
        refine wpAny_handleBy_nil ?_
        have out : wpAny (model X.prog X.w) X.A (setFlight (.ref a) X.env.frame) (fun _ t4 => wpAny (model X.prog X.w) X.A (throw (.ref a) : Sem Flow) (SP X pins D) X.xe t4) X.xe { s' with heap := h3 } := by
          rw [fr]
          exact HandSPX.setFlight_upZ fl fun h4 q4 up4 => wpAny_throw (tk _ _ ⟨a, B, sI, pins, σ1, H1, cls, d, rfl, J, nb, (up.trans up3).trans up4, .inr (.inr (by rw [st]; exact q4)), na, os, ag, w⟩)
        obtain ⟨_, _, _, oe1, vs1, T, _, _, g1, _, d1, v1, _⟩ := id fl
        unfold PySem.passOn
        refine wpAny_bind (wpAny_field g1 d1 v1 ?_)
        rw [if_neg (show ¬ ((Value.ref T == Value.none) = true) by simp)]
        first | exact wpAny_bind (wpAny_pure (wpAny_bind out)) | exact wpAny_bind out
      | @cons x n c i ts b₀ suite np hp hd3 l3 hi hln hc su r ih =>
        rintro ⟨b, eb, yes, no⟩
        refine wpAny_handleBy_cons (codeAny_handlers_test ?_) (by intro q; cases q)
        have kind : PySem.W.Looks (model X.prog X.w) h3 (typeOf (.ref a)) cls := fun _ _ _ _ k q => wpAny_typeOf_ref (k _ _ ge) (by rw [ze.1]; exact q)
        have look := PySem.W.exm_one (M := model X.prog X.w) (J3.kIn) kind eb
        have named : ∀ {Q : Value → Shared → Prop} {E : Value → Shared → Prop}, Q c { s' with heap := h3 } → wpAny (model X.prog X.w) (X.A.mark (some (.ref a))) (eval (.Name x np) X.env) Q E { s' with heap := h3 } := by
          intro Q E q
          rcases hc with ⟨g, db, hm | ⟨hm, hv, hn⟩⟩
          · exact ld_glob (X := X.suite a ((a, oe) :: (X.pn ++ pins))) S3 g hm q db
          · exact ld_blt (X := X.suite a ((a, oe) :: (X.pn ++ pins))) S3 g hm hv q hn db
        refine named (look.here ?_)
        cases b with
        | false => exact (show wpAny _ X.A (handleBy (.ref a) X.env hd3) _ _ _ from ih (no rfl))
        | true =>
          refine codeAny_handlers_suite_as (HandSPX.lands_againZ fl fun h4 fl4 up4 => ?_)
          have J4 : Inv X pins σ1 H1 { s' with heap := h4 } := J.landed nb fl4.1 ((up.trans up3).trans up4) os ag
          obtain ⟨oe4, vs4, g4, z4, d4⟩ := fl4.there
          refine store_ok (X := X.suite a ((a, oe4) :: (X.pn ++ pins))) (v := .ref a) (J4.suite g4 d4 na nL nF) nd hi (.inl hln) rfl (fun s5 S5 => ?_) (.inr hln)
          refine wpAny_mono ((su a oe4 cls d (X.pn ++ pins) z4 ⟨_, d4⟩).run [] s5 _ H1 _ S5 (yes rfl a na)) (fun f s6 q => ?_) (fun _ _ z => False.elim z)
          have done : ∀ {σ6 : L2.St} {H6 : Hp} {Q : Shared → Prop}, Inv (X.suite a ((a, oe4) :: (X.pn ++ pins))) [] σ6 H6 s6 → (∀ s7, Inv X pins (σ6.set i none) H6 s7 → Q s7) → wpAny (model X.prog X.w) X.A (do bindName X.env n .none; unbindBehindTheSuite X.env n hp) (fun _ s7 => Q s7) X.xe s6 :=
            fun {_ _ _} S6 hq => gone_ok (S6.unsuite ok) nd hi hln hq
          cases f with
          | ret u =>
            obtain ⟨v6, σ6, H6, S6, r6, q6⟩ := q
            exact done S6 fun _ J7 => ⟨_, _, _, J7, r6, q6⟩
          | next => obtain ⟨_, _, S6, q6⟩ := q; exact done S6 fun _ J7 => ⟨_, _, J7, q6⟩
          | brk => obtain ⟨_, _, S6, q6⟩ := q; exact done S6 fun _ J7 => ⟨_, _, J7, q6⟩
          | cont => obtain ⟨_, _, S6, q6⟩ := q; exact done S6 fun _ J7 => ⟨_, _, J7, q6⟩
    exact each cl w
  · cases f with
    | ret u => obtain ⟨v, σ1, H1, J, r, q⟩ := q; exact ⟨v, σ1, H1, J.ofTry ok, r, q⟩
    | next => obtain ⟨σ1, H1, J, q⟩ := q; exact wpAny_execs_nil ⟨σ1, H1, J.ofTry ok, q⟩
    | brk => obtain ⟨σ1, H1, J, q⟩ := q; exact ⟨σ1, H1, J.ofTry ok, q⟩
    | cont => obtain ⟨σ1, H1, J, q⟩ := q; exact ⟨σ1, H1, J.ofTry ok, q⟩
end
/-- the clauses of the text, and what they are worth -/
inductive ClOk (X : Cx) : List ExceptHandler → List (Cl × Addr) → Prop
  | nil : ClOk X [] []
  | cons {x n : Str} {C : Addr} {i : Nat} {fs : Nat → Option Nat → SM} {b₀ : Stmt} {suite : List Stmt} {np hp : Pos} {hds : List ExceptHandler} {l : List (Cl × Addr)} (hi : X.N[i]? = some n) (hln : X.env.kindOf n = some .local) (hc : Names X x (.ref C)) (hm : X.mg x = some (.ref C)) (te : PySem.W.exmOne X.K (.ref C) (.ref C) = some true)
      (sep : ∀ q ∈ l, PySem.W.exmOne X.K (.ref q.2) (.ref C) = some false)
      (su : ∀ (a : Addr) (oe : Obj) (d : Option Addr) (pn : List (Addr × Obj)), Zc (.ref C) d oe → (∃ vs, oe.data = .fields vs) → MB (X.suite a ((a, oe) :: pn)) W0 (b₀ :: suite) (fs a d)) (r : ClOk X hds l) :
      ClOk X (.ExceptHandler (some (.Name x np)) (some n) (b₀ :: suite) hp :: hds) ((⟨x, i, fs⟩, C) :: l)
abbrev tsOf (X : Cx) (q : Cl × Addr) : Value × Nat × (Addr → Value → Option Addr → TS) := (.ref q.2, q.1.i, fun a cls d D σ H => cls = .ref q.2 ∧ tS X W0 (q.1.fs a d) D σ H)
theorem ClOk.hd {X : Cx} {hds : List ExceptHandler} {l : List (Cl × Addr)} (h : ClOk X hds l) : HdAs X hds (l.map (tsOf X)) := by
  induction h with
  | nil => exact .nil
  | cons hi hln hc hm te sep su r ih =>
    refine .cons hi hln hc (fun a oe cls d pn hz hf => ⟨fun pins s σ H D I h => ?_⟩) ih
    obtain ⟨rfl, h⟩ := h
    exact (su a oe d pn hz hf).run pins s σ H D I h
section
variable {X : Cx} {W : WX} {body : List Stmt} {h₀ : ExceptHandler} {hds : List ExceptHandler} {l : List (Cl × Addr)} {pos : Pos} {fb : SM}
/-- one clause that takes the error -/
theorem cl_take {c : Cl} {C : Addr} {ω ω' : Wo} {H H' : Hp} {env : PEnv} {σ : L2.St} {st : Store} {fl : Option (List (Str × PV))} {d : Option Addr} {D : Ends} (x1 : Ext ω H ω' H') (w1 : Wd X.K ω' st H') (r1 : REnv X.K ω' env σ) (xr : XRep X.K ω' H H' fl d)
    (h : AfterS X W ω H (anyAd (clRun c fl env st)) D) : ∀ a : Addr, H' a = none → tS X W0 (c.fs a d) (DEnd D c.i) (σ.set c.i (some (.ref a))) H' := by
  intro a na
  unfold anyAd at h
  split at h
  case isFalse => exact False.elim h
  rename_i all
  have key : ∀ (dd : Nat) (ω2 : Wo), Ext ω H ω2 H' → Wd X.K ω2 st H' → REnv X.K ω2 (env.set c.i (some (excV a (hasF fl dd) fl))) (σ.set c.i (some (.ref a))) → hasF fl dd = d → tS X W0 (c.fs a d) (DEnd D c.i) (σ.set c.i (some (.ref a))) H' := by
    intro dd ω2 x2 w2 r2 ed
    subst ed
    refine ⟨ω2, st, _, w2, r2, ?_⟩
    have h : AfterS X W ω H (clRun c fl env st a dd) D := by rw [all a dd]; exact h
    unfold clRun at h
    cases q : c.fs a (hasF fl dd) (env.set c.i (some (excV a (hasF fl dd) fl))) st with
    | nx e2 s2 => rw [q] at h; exact fun ω3 H3 σ3 x w r => h ω3 H3 (σ3.set c.i none) (x2.trans x) w (r.unset c.i)
    | bk e2 s2 => rw [q] at h; exact fun ω3 H3 σ3 x w r => h ω3 H3 (σ3.set c.i none) (x2.trans x) w (r.unset c.i)
    | ct e2 s2 => rw [q] at h; exact fun ω3 H3 σ3 x w r => h ω3 H3 (σ3.set c.i none) (x2.trans x) w (r.unset c.i)
    | rt v s2 => rw [q] at h; exact fun ω3 H3 y x w r => h ω3 H3 y (x2.trans x) w r
    | err e2 n2 f2 s2 => rw [q] at h; exact False.elim h
    | stuck => rw [q] at h; exact False.elim h
  cases fl with
  | none =>
    have ed : d = none := xr
    subst ed
    exact key 0 ω' x1 w1 (r1.set (.con _) c.i) rfl
  | some f =>
    obtain ⟨p, vs, rfl, n0, ep, nF, nρ, ens, rv⟩ := xr
    have le := Wo.fz_le (o := .xd vs) nF
    exact key p (ω'.fz p (.xd vs)) (Wd.freezeX (K := X.K) x1 n0 ep nF) (w1.freeze ep nF nρ) ((r1.mono le).set (.exc upd_same ens.symm (rv.mono le)) c.i) rfl
theorem cl_pick {n : Str} {cls : Value} {ω ω' : Wo} {H H' : Hp} {env : PEnv} {σ : L2.St} {st : Store} {fl : Option (List (Str × PV))} {d : Option Addr} {D : Ends} {Wo : WX} (x1 : Ext ω H ω' H') (w1 : Wd X.K ω' st H') (r1 : REnv X.K ω' env σ) (xr : XRep X.K ω' H H' fl d) (m1 : X.mg n = some cls) {hds : List ExceptHandler} {l : List (Cl × Addr)} (k : ClOk X hds l) :
    AfterS X W ω H (clPick n fl env st (l.map (·.1))) D → (∃ q ∈ l, cls = .ref q.2) ∧ wAsM X.K Wo D (l.map (tsOf X)) cls d σ H' := by
  induction k with
  | nil => exact False.elim
  | @cons x nn C i fs b₀ suite np hp hds l hi hln hc hm te sep su r ih =>
    intro h
    have h : AfterS X W ω H (if n = x then anyAd (clRun ⟨x, i, fs⟩ fl env st) else clPick n fl env st (l.map (·.1))) D := h
    by_cases en : n = x
    · subst en
      cases hm.symm.trans m1
      rw [if_pos rfl] at h
      exact ⟨⟨_, List.mem_cons_self, rfl⟩, true, te, fun _ a na => ⟨rfl, cl_take (c := ⟨n, i, fs⟩) (C := C) x1 w1 r1 xr h a na⟩, (fun z => nomatch z)⟩
    · rw [if_neg en] at h
      obtain ⟨⟨q, mq, e⟩, w⟩ := ih h
      exact ⟨⟨q, .tail _ mq, e⟩, false, by rw [e]; exact sep q mq, (fun z => nomatch z), fun _ => w⟩
theorem ms_tryM {cs : List Cl} (hs : X.stack = X.env :: X.outer) (hf : X.env.frame = some X.env.locals) (hN : X.N.Nodup) (k : ClOk X (h₀ :: hds) l) (ec : l.map (·.1) = cs)
    (hb : ∀ (W : WX) (pn : List (Addr × Obj)) (xe : Value → Shared → Prop), Takes (X.tr pn xe) W → MB (X.tr pn xe) W body fb) : MS X W (.Try body (h₀ :: hds) [] [] pos) (sTryM cs fb) := by
  subst ec
  refine psI (ps_try_asM (tb := fun W => tS X W fb) (Wo := fun _ _ _ _ => False) hs hf hN takes0 (fun W pn xe tk _ => hb W pn xe tk) k.hd) ?_
  rintro D σ H ⟨ω, st, env, wd, re, h⟩
  refine ⟨ω, st, env, wd, re, ?_⟩
  unfold sTryM at h
  cases q3 : fb env st with
  | err e2 n2 f2 s2 =>
    rw [q3] at h
    intro ω' H' σ' d cls x1 w1 r1 m1 xr
    exact (cl_pick x1 w1 r1 xr m1 k h).2
  | nx e2 s2 => rw [q3] at h; exact h
  | bk e2 s2 => rw [q3] at h; exact h
  | ct e2 s2 => rw [q3] at h; exact h
  | rt v s2 => rw [q3] at h; exact h
  | stuck => rw [q3] at h; exact False.elim h
end
/-- the suites of errors without fields, and with them -/
def clNone (f : Nat → SM) : Nat → Option Nat → SM := fun a d => match d with
  | none => f a
  | some _ => sStuckM
def clSome (f : Nat → Nat → SM) : Nat → Option Nat → SM := fun a d => match d with
  | some d => f a d
  | none => sStuckM
theorem mb_stuck {X : Cx} {W : WX} {s : List Stmt} : MB X W s sStuckM := ⟨fun _ _ _ _ _ _ ⟨_, _, _, _, _, h⟩ => False.elim h⟩
theorem su_none {X : Cx} {C : Addr} {s : List Stmt} {f : Nat → SM} (h : ∀ (a : Addr) (oe : Obj) (pn : List (Addr × Obj)), Zc (.ref C) none oe → (∃ vs, oe.data = .fields vs) → MB (X.suite a ((a, oe) :: pn)) W0 s (f a)) :
    ∀ (a : Addr) (oe : Obj) (d : Option Addr) (pn : List (Addr × Obj)), Zc (.ref C) d oe → (∃ vs, oe.data = .fields vs) → MB (X.suite a ((a, oe) :: pn)) W0 s (clNone f a d)
  | a, oe, none, pn, hz, hf => h a oe pn hz hf
  | _, _, some _, _, _, _ => mb_stuck
theorem su_some {X : Cx} {C : Addr} {s : List Stmt} {f : Nat → Nat → SM} (h : ∀ (a : Addr) (oe : Obj) (d : Addr) (pn : List (Addr × Obj)), Zc (.ref C) (some d) oe → (∃ vs, oe.data = .fields vs) → MB (X.suite a ((a, oe) :: pn)) W0 s (f a d)) :
    ∀ (a : Addr) (oe : Obj) (d : Option Addr) (pn : List (Addr × Obj)), Zc (.ref C) d oe → (∃ vs, oe.data = .fields vs) → MB (X.suite a ((a, oe) :: pn)) W0 s (clSome f a d)
  | a, oe, some d, pn, hz, hf => h a oe d pn hz hf
  | _, _, none, _, _, _ => mb_stuck
/-! ### isinstance of an error without fields -/
def eIsE0 (a : Nat) (b : Bool) (fe : EM) : EM := fun env st => (fe env st).bind fun v st1 => match v with
  | .con (.ref a') => if a' = a then .ok (.bl b) st1 else .stuck
  | _ => .stuck
def rIs0 (K : PySem.W.Frag) (C a : Addr) : List V → Hp → VK → Prop := fun xs H Q => ∃ (c : V) (cv : Value) (b : Bool), xs = [.ref a, c] ∧ (∀ u, RelV c u → u = cv) ∧ PySem.W.kitOne K (.ref C) cv = some b ∧ Q (.bl b) H
section
variable {X : Cx} {W : WX} {a C : Addr} {oe : Obj} {pn : List (Addr × Obj)} {e : Expr} {fe : EM} {y : Str} {p p2 pos : Pos} {b : Bool}
theorem call_is0 (T : IsC X.K C) (hz : Zc (.ref C) none oe) (hf : ∃ vs, oe.data = .fields vs) : CallR (X.suite a ((a, oe) :: pn)) (.builtin "isinstance") (rIs0 X.K C a) := by
  intro pins s σ H xs us Q I r h
  obtain ⟨c, cv, b, rfl, hcv, e, q⟩ := h
  obtain ⟨u1, u2, rfl, r1, r2⟩ := vals2 r
  cases (show u1 = Value.ref a from r1)
  have ec := hcv _ r2
  subst ec
  have J : PySem.W.InstAt s.heap a oe C none := by
    obtain ⟨hget, _⟩ := I.pin (a, oe) (List.mem_append.mpr (.inl List.mem_cons_self))
    obtain ⟨vs, hv⟩ := hf
    exact ⟨hget, hz.1, by unfold PySem.W.notCls; rw [hv] <;> rfl, by rw [hz.2]; trivial⟩
  exact PySem.W.kia_one (PySem.W.kitx_exc T.hcl T.hg T.hk T.hs T.ha T.hn T.ht T.hm) I.kIn J e (fun z => nomatch z) fun tk => ⟨.bl b, H, I.kept (t' := tk) fun _ _ z => z, rfl, q⟩
theorem me_isE0 {u : Value} {v : V} (T : IsC X.K C) (hz : Zc (.ref C) none oe) (hf : ∃ vs, oe.data = .fields vs) (hi : X.mg "isinstance" = none) (hv : bootBuiltins "isinstance" = some (.builtin "isinstance"))
    (hk : PySem.W.kitOne X.K (.ref C) u = some b) (hR : ∀ u', RelV v u' → u' = u) {c : Expr} (hcl : ∀ W, ME (X.suite a ((a, oe) :: pn)) W c (eC (.con v))) (he : ME (X.suite a ((a, oe) :: pn)) W e fe) (hg : Gl (X.suite a ((a, oe) :: pn)) "isinstance" := by rfl)
    (hs1 : starEach (e :: [c]) X.env = (false, eval e X.env) :: starEach [c] X.env := by rfl) (hs2 : starEach (c :: []) X.env = (false, eval c X.env) :: starEach [] X.env := by rfl) (hpl : (backTo pos (starEach [c] X.env)).any (·.1) = false := by rfl) :
    ME (X.suite a ((a, oe) :: pn)) W (.Call (.Name "isinstance" p) [e, c] [] pos) (eIsE0 a b fe) := by
  refine peI (pe_callB (call_is0 T hz hf) hg hi hv (pa_cons he (pa_cons (hcl W) pa_nil hs2) hs1) (by decide) (by decide) hs1 hpl) ?_
  rintro σ H Q ⟨ω, st, env, wd, re, h⟩
  refine ⟨ω, st, env, wd, re, (After.bind (Rel := RV X.K) h).mono ?_⟩
  rintro x H1 ⟨ω1, st1, pv, e1, wd1, r1, h1⟩
  split at h1
  · rename_i a'
    split at h1
    · rename_i hh
      subst hh
      cases r1
      refine ⟨ω1, st1, env, wd1, re.mono e1.le, ?_⟩
      intro ω2 H2 z e2 wd2 r2
      cases r2
      exact ⟨v, u, b, rfl, hR, hk, After.shift h1 e2 ω2 H2 (.bl b) (.refl _ _) wd2 (.bl b)⟩
    · exact False.elim h1
  · exact False.elim h1
end
/-! ### xs.index(x), where it stands in xs -/
def ixOf (v : PV) : List PV → Option Nat
  | [] => none
  | y :: r => if PyData.eqv (toD y) (toD v) = true then some 0 else (ixOf v r).map (· + 1)
theorem ixOf_some {v : PV} : ∀ {xs : List PV} {j : Nat}, ixOf v xs = some j → ∃ y, xs[j]? = some y ∧ PyData.eqv (toD y) (toD v) = true ∧ ∀ (m : Nat) (z : PV), m < j → xs[m]? = some z → PyData.eqv (toD z) (toD v) = false
  | [], _, h => by cases h
  | y :: r, j, h => by
    unfold ixOf at h
    by_cases e : PyData.eqv (toD y) (toD v) = true
    · rw [if_pos e] at h; cases h
      exact ⟨y, rfl, e, fun m z hm => absurd hm (Nat.not_lt_zero _)⟩
    · rw [if_neg e] at h
      obtain ⟨k, hk, rfl⟩ := Option.map_eq_some_iff.mp h
      obtain ⟨w, h1, h2, h3⟩ := ixOf_some hk
      refine ⟨w, h1, h2, fun m z hm hz => ?_⟩
      cases m with
      | zero => cases hz; simpa using e
      | succ m => exact h3 m z (by omega) (by simpa using hz)
def isSeqL (v : PV) (st : Store) : Bool := match seqOf st v with
  | some (false, _) => true
  | _ => false
def pIndex (v : PV) (vs : List PV) (st : Store) : Res PV := match vs with
  | [y] => match seqOf st v with
    | some (false, xs) => if isDs xs = true ∧ isD y = true ∧ xs.length ≤ 1000000 ∧ min (PyData.depthAll (toDs xs)) (toD y).depth ≤ 60 then match ixOf y xs with
      | some j => .ok (.int (j : Nat)) st
      | none => .stuck
      else .stuck
    | _ => .stuck
  | _ => .stuck
def rIx (K : PySem.W.Frag) : V → List V → Hp → VK → Prop := fun x xs H Q => ∃ (y : V) (d z : PyData) (ds : List PyData) (j : Nat), xs = [y] ∧ Dp K H x (.list ds) ∧ Dp K H y d ∧ PyData.plainAll ds = true ∧ d.plain = true ∧ min (PyData.depthAll ds) d.depth ≤ 60 ∧ ds.length ≤ 1000000 ∧
  ds[j]? = some z ∧ PyData.eqv z d = true ∧ (∀ (m : Nat) (z' : PyData), m < j → ds[m]? = some z' → PyData.eqv z' d = false) ∧ Q (.int (j : Nat)) H
theorem reads_len {h : Heap} : ∀ {ds : List PyData} {vs : List Value} {as : List Addr}, ReadsAll h vs ds as → vs.length = ds.length
  | [], _, _, .nil => rfl
  | _ :: _, _, _, .cons _ t => by rw [List.length_cons, List.length_cons, reads_len t]
section
variable {X : Cx}
theorem mt_ix (hu : X.A.units + 64 < cLine) : MtR X "list.index" (rIx X.K) := by
  rintro pins s σ H x xs v us Q I rx rxs ⟨y, d, z, ds, j, rfl, hl, hy, p1, p2, dep, len, hz, hit, no, q⟩
  obtain ⟨uy, rfl, ry⟩ : ∃ u, us = [u] ∧ RelV y u := by
    cases rxs with
    | cons r t => cases t; exact ⟨_, rfl, r⟩
  obtain ⟨bs, e1⟩ := Dp.reads I d y uy hy ry
  obtain ⟨as, e2⟩ := Dp.reads I (.list ds) x v hl rx
  cases e2 with
  | @list a o vs n _ as2 g1 g2 g3 g4 =>
    obtain ⟨oc, dd, data, sl⟩ := o
    simp only at g2 g3
    subst g2 g3
    have el := reads_len g4
    obtain ⟨jl, _⟩ := List.getElem?_eq_some_iff.mp hz
    have es : vs.size = ds.length := by rw [← el, Array.length_toList]
    have val : ∀ (m : Nat) (hm : m < vs.size) (w : PyData), ds[m]? = some w → SeqAt.readOf s.heap vs[m] = w := by
      intro m hm w hw
      rw [← SeqAt.readsAll_map_plain ds _ _ p1 g4, List.getElem?_map, List.getElem?_eq_getElem (by simpa using hm)] at hw
      simpa using Option.some.inj hw
    have hj : j < vs.size := by omega
    refine call_meets PySem.F.slot_list_index ⟨_, g1, rfl⟩ PySem.F.entry_list_index (PySem.F.args_list_index_2 _ _) (SeqAt.list_indexAt a vs n dd sl uy (fun u => PyData.eqv (SeqAt.readOf s.heap u) d) j hj (by omega) ?_ fun m hm hmj => ?_)
      ⟨g1, SeqAt.items_plain g4 e1 p1 p2 (by omega), ⟨.int (j : Nat), H, I.tok _, ⟨_, rfl⟩, q⟩⟩
    · show PyData.eqv (SeqAt.readOf s.heap vs[j]) d = true
      rw [val j hj z hz]; exact hit
    · show PyData.eqv (SeqAt.readOf s.heap vs[m]) d = false
      have := List.getElem?_eq_getElem (show m < ds.length by omega)
      rw [val m hm _ this]; exact no m _ hmj this
theorem mts_index (hu : X.A.units + 64 < cLine) : MtS X "list" "list.index" isSeqL pIndex := by
  refine ⟨_, mt_ix hu, fun ω st H v x wd r h => ?_, fun E ω st H v x vs xs Q wd rv rs h => ?_⟩
  · unfold isSeqL at h
    split at h
    · rename_i q
      obtain ⟨a, ws, rfl, _, hq⟩ := seqOf_rep wd r q
      rcases hq with ⟨z, _⟩ | ⟨_, hq⟩
      · cases z
      · exact .inl ⟨rfl, _, hq⟩
    · cases h
  · unfold pIndex at h
    split at h
    · split at h
      · rename_i ys q
        split at h
        · rename_i c
          obtain ⟨c1, c2, c3, c4⟩ := c
          split at h
          · rename_i j hj
            obtain ⟨w, k1, k2, k3⟩ := ixOf_some hj
            obtain ⟨a, ws, rfl, rw', hq⟩ := seqOf_rep wd rv q
            have hq : SqL X.K H a ws := by
              rcases hq with ⟨z, _⟩ | ⟨_, hq⟩
              · cases z
              · exact hq
            cases rs with
            | cons ry t =>
              cases t
              refine ⟨_, toD _, toD w, toDs ys, j, rfl, Dp.lst hq (rw'.dp wd.sub c1), ry.dp wd.sub c2, plain_toDs _, plain_toD _, c4, by rw [toDs_map, List.length_map]; exact c3, ?_, k2, fun m z' hm hz' => ?_, h.ok_here wd (.int _)⟩
              · rw [toDs_map, List.getElem?_map, k1]; rfl
              · rw [toDs_map, List.getElem?_map] at hz'
                cases e : ys[m]? with
                | none => rw [e] at hz'; cases hz'
                | some y => rw [e] at hz'; cases hz'; exact k3 m y hm e
          · exact False.elim h
        · exact False.elim h
      · exact False.elim h
    · exact False.elim h
end
end PL
/-! PL, part j: sorted of a tuple. -/
namespace PLT
open PySem PySem.Calls PyProof.Rows PySem.W
section
variable {prog : Program} {w : World} {A : Around} {E : Value → Shared → Prop} {s : Shared} {β : Type} {vs : List Value} {bs : List β} {enc : β → PyData} {R : Value → β → Prop} {κ : PyProof.Rows.KeyKind}
theorem collect_tup {l : Addr} {o : Obj} {n : Nat} {Q : List Value → Shared → Prop} (g : s.heap.get? l = some o) (c : o.cls = .type "tuple") (d : o.data = .seq vs.toArray n) (z : vs.length ≤ sizeLine)
    (h : Q vs { s with heap := (s.heap.push (seqObj "list" #[] 0)).update s.heap.objs.size (Obj.mapSeq (· ++ vs.toArray)) }) : wpAny (model prog w) A (collect (.ref l)) Q E s := by
  unfold collect
  refine wpAny_bind (wpAny_runValue (codeAny_builtin entry_proto_collect' ?_))
  refine (show wpAny _ _ (do again (.builtin "list.__iadd__" ⟨[← newList [], .ref l], []⟩)) _ _ s from wpAny_bind (wpAny_newList (wpAny_pure ⟨Code.quiet_builtin _ (by decide +kernel), codeAny_builtin entry_list_iadd' ?_⟩)))
  refine (show wpAny _ _ (Builtin.List.listExtendWith (.ref s.heap.objs.size) (.ref l) (.ref s.heap.objs.size)) _ _ { s with heap := s.heap.push (seqObj "list" #[] 0) } from ?_)
  have g2 : (s.heap.push (seqObj "list" #[] 0)).get? l = some o := Heap.get?_push_of_some _ g
  unfold Builtin.List.listExtendWith
  refine wpAny_bind (wpAny_typeOf (T := "tuple") ⟨o, g2, c⟩ ?_)
  rw [if_pos (by rw [show (Value.type "tuple" == Value.type "tuple") = true by rfl]; simp)]
  refine wpAny_bind (listItems_at g2 d (wpAny_bind (listItems_at (xs := #[]) (n := 0) (Heap.get?_push_size _ rfl) rfl ?_)))
  rw [if_neg (by simp)]
  refine wpAny_bind (listUpdate_at (xs := #[]) (n := 0) (Heap.get?_push_size _ rfl) rfl ?_ (Nat.zero_le _) (by show (#[] ++ vs.toArray).size ≤ sizeLine + 1; simp only [Array.size_append, List.size_toArray, List.length_nil]; omega))
  refine wpAny_pure (wpAny_bind (wpAny_load (get?_update_seq (Heap.get?_push_size _ rfl) _) ?_))
  have e : ((#[] : Array Value) ++ vs.toArray).toList = vs := by simp
  exact (show wpAny _ _ (pure ((#[] : Array Value) ++ vs.toArray).toList) Q E _ from by rw [e]; exact wpAny_pure h)
theorem sorted_tupV {l : Addr} {o : Obj} {n : Nat} {Q : Value → Shared → Prop} (g : s.heap.get? l = some o) (c : o.cls = .type "tuple") (d : o.data = .seq vs.toArray n) (z : vs.length ≤ sizeLine)
    (S : SortsAt prog w A.in1.in1 { s with heap := sortingHeap (copyHeap s.heap vs) (s.heap.objs.size + 1) vs } κ vs)
    (h : Q (.ref (s.heap.objs.size + 1)) { s with heap := sortedAll s.heap vs (sortVals κ false vs vs).toArray }) : wpAny (model prog w) A (call (.builtin "sorted") [.ref l]) Q E s := by
  refine call_function_entry_kw kind_sorted plain_sorted entry_sorted (args_sorted1 _) ?_
  unfold Builtin.«sorted»
  have sz : ((s.heap.push (seqObj "list" #[] 0)).update s.heap.objs.size (Obj.mapSeq (· ++ vs.toArray))).objs.size = s.heap.objs.size + 1 := (Heap.size_update _ _ _).trans (size_push' _ _)
  refine wpAny_bind (m := checkCount "sorted" 1 1 _) (wpAny_pure (wpAny_bind (collect_tup g c d z (wpAny_bind (wpAny_newList ?_ z)))))
  refine (show wpAny _ _ _ _ _ { s with heap := copyHeap s.heap vs } from ?_)
  rw [sz]
  refine wpAny_bind (wpAny_holding (wpAny_call_entry_kw slot_list_sort ⟨_, copyHeap_at s.heap vs, rfl⟩ entry_list_sort ?body (args_list_sort _)))
  case body =>
    refine (show wpAny (model prog w) A.in1.in1 (Builtin.«list.sort» ⟨[.ref (s.heap.objs.size + 1)], []⟩) _ _ _ from wpAny_mono (list_sort_vals (s := { s with heap := copyHeap s.heap vs }) (P := fun f s' => f = .done (.ret .none) ∧ Q (.ref (s.heap.objs.size + 1)) s') (copyHeap_at s.heap vs) S z ⟨rfl, h⟩) (fun f s' hf => ?_) fun _ _ e => e)
    rcases hf with ⟨rfl, q⟩
    exact ⟨_, rfl, wpAny_pure ⟨_, rfl, q⟩⟩
theorem sorted_tupD {l : Addr} {o : Obj} {n : Nat} {Q : Value → Shared → Prop} (g : s.heap.get? l = some o) (c : o.cls = .type "tuple") (d : o.data = .seq vs.toArray n) (e : EachIs R vs bs) (er : EachIs (fun v b => ∃ as, Reads s.heap v (enc b) as) vs bs) (al : AllAlike (bs.map enc)) (so : Sortable (bs.map enc)) (z : bs.length ≤ sizeLine)
    (hu : ∀ b, b ∈ bs → A.units + 2 + (enc b).depth < cLine) (h : ∀ out, out.length = bs.length → EachIs R out (bs.mergeSort (dataLe false enc)) → Q (.ref (s.heap.objs.size + 1)) { s with heap := sortedAll s.heap vs (List.toArray out) }) :
    wpAny (model prog w) A (call (.builtin "sorted") [.ref l]) Q E s := by
  have er2 : EachIs (fun v b => ∃ as, Reads (sortingHeap (copyHeap s.heap vs) (s.heap.objs.size + 1) vs) v (enc b) as) vs bs := er.mono fun _ _ x => x.elim fun as r => ⟨as, PyProof.Rows.Reads.keeps (fun _ _ => sorting_copy_old) r⟩
  have S := SortsAt.data (prog := prog) (w := w) (A := A.in1.in1) (s := { s with heap := sortingHeap (copyHeap s.heap vs) (s.heap.objs.size + 1) vs }) (each_map (R := fun v d => ∃ as, Reads (sortingHeap (copyHeap s.heap vs) (s.heap.objs.size + 1) vs) v d as) enc er2) al so (bound_map hu)
  exact sorted_tupV g c d (by rw [e.length]; exact z) S (h _ (by rw [sortVals_length false rfl]; exact e.length) (sortVals_data false e er2 al))
end
end PLT
namespace PL
open PySem PySem.Spec PyProof.Rows L2
open Classical in
/-- sorted of any list or tuple -/
noncomputable def pSortedA (v : PV) (st : Store) : Res PV := match seqOf st v with
  | some (_, xs) => if SortOk xs ∧ xs.length ≤ 1000000 then .ok (.lst (xs.mergeSort (PySem.W.dataLe false toD))) st else .stuck
  | _ => .stuck
section
variable {X : Cx}
theorem cs_sortedA (hu : X.A.units + 64 < cLine) : CallS X (.builtin "sorted") (one pSortedA) := .one fun pins s σ H x u Q E ω st a I rx wd ra h => by
  unfold pSortedA at h
  split at h
  · rename_i t xs q
    split at h
    · rename_i hz
      obtain ⟨⟨h1, h2, h3, h4⟩, hlen⟩ := hz
      obtain ⟨p, ws, e, rs, ht⟩ := seqOf_rep wd ra q
      subst e
      cases rx
      rw [toDs_map] at h2 h3 h4
      rcases ht with ⟨_, hq⟩ | ⟨_, hq⟩
      · obtain ⟨bs, r2⟩ := Dp.reads I _ _ _ (Dp.tup hq (rs.dp wd.sub h1)) (show RelV (.ref p) (.ref p) from rfl)
        obtain ⟨its, rv, ⟨o, ho, hc, n, hdt⟩, hlen2⟩ := I.tuple hq
        have ei := each_of rv rs
        refine PLT.sorted_tupD (R := Stands X.K ω) (enc := toD) ho hc hdt ei (each_reads I wd ei h1) h2 h3 (by rw [sizeLine_eq]; omega) (fun b hb => ?_) fun out ho hr => ?_
        · have := h4 _ (List.mem_map.mpr ⟨b, hb, rfl⟩)
          omega
        · obtain ⟨os, v1, v2⟩ := each_back hr
          obtain ⟨ep, he'⟩ := PyProof.Rows.sortedAll_at s.heap its out.toArray
          refine ⟨.ref _, upd H (s.heap.objs.size + 1) (.lst os), I.laid (t' := s.toks) (fun _ _ => PyProof.Rows.sortedAll_old) (Nat.le_succ _) ⟨?_, out, ep, v1, he'⟩, rfl, new_lst wd v2 h _ (I.hok.fresh (Nat.le_succ _))⟩
          rw [v1.length, ho, sizeLine_eq]
          omega
      · obtain ⟨its, rv, hl, hz⟩ := I.list hq
        have ei := each_of rv rs
        refine PySem.W.sorted_data (R := Stands X.K ω) (enc := toD) hl.isList ei (each_reads I wd ei h1) h2 h3 (by rw [rs.length]; exact hz) (fun b hb => ?_) fun out ho hr => ?_
        · have := h4 _ (List.mem_map.mpr ⟨b, hb, rfl⟩)
          omega
        · obtain ⟨os, v1, v2⟩ := each_back hr
          obtain ⟨ep, he'⟩ := PyProof.Rows.sortedAll_at s.heap its out.toArray
          refine ⟨.ref _, upd H (s.heap.objs.size + 1) (.lst os), I.laid (t' := s.toks) (fun _ _ => PyProof.Rows.sortedAll_old) (Nat.le_succ _) ⟨?_, out, ep, v1, he'⟩, rfl, new_lst wd v2 h _ (I.hok.fresh (Nat.le_succ _))⟩
          rw [v1.length, ho, rs.length]
          exact hz
    · exact False.elim h
  · exact False.elim h
end
end PL
/-! printed by gen.py: the plain evaluators -/
namespace PL
open PySem PySem.Spec PyProof.Rows L2
noncomputable section
abbrev N_row_of : List Str := ["game", "name", "row"]
def f_row_of : SM :=
  (sSeq (sFor (iVal (eBin pIx (eVar 0) (eC (.int 0)))) (.one 2)
    (sIf (eTest (eBin pEq (eBin pIx (eVar 2) (eC (.int 0))) (eVar 1))) (sRet (eVar 2)) sNil))
    (sRet (eC .non)))
def m_row_of : List PV → Store → Res PV := runBody 3 f_row_of
abbrev N_with_row : List Str := ["sets", "row"]
def f_with_row : SM :=
  (sRet (eArgs (one pTuple) (aCons (eArgs (one pSortedA) (aCons (eBin pAdd (eVar 0) (eArgs mkTup (aCons (eVar 1) aNil))) aNil)) aNil)))
def m_with_row : List PV → Store → Res PV := runBody 2 f_with_row
abbrev N_without_row : List Str := ["sets", "name", "row"]
def f_without_row : SM :=
  (sRet (eArgs (one pTuple) (aCons (eComp [2] (iVal (eVar 0)) (.one 2) (eTest (eBin pNe (eBin pIx (eVar 2) (eC (.int 0))) (eVar 1))) (eVar 2)) aNil)))
def m_without_row : List PV → Store → Res PV := runBody 3 f_without_row
abbrev N_node_at : List Str := ["tree", "path", "node", "move"]
def f_node_at : SM :=
  (sSeq (sSet 2 (eVar 0))
    (sSeq (sFor (iVal (eVar 1)) (.one 3)
    (sSeq (sIf (tOrM (eTest (eArgs (pIsi) (aCons (eVar 2) (aCons (eC (.con (.ty "str"))) aNil)))) (tNotM (eTest (eChain pLe pLt (eC (.int 0)) (eVar 3) (eArgs (one pLen) (aCons (eBin pIx (eVar 2) (eC (.int 1))) aNil)))))) sStuckM sNil)
    (sSet 2 (eBin pIx (eBin pIx (eVar 2) (eC (.int 1))) (eVar 3)))))
    (sRet (eVar 2))))
def m_node_at : List PV → Store → Res PV := runBody 4 f_node_at
abbrev N_replaced : List Str := ["tree", "path", "node", "move", "children", "lower"]
def f_replaced (self : List PV → Store → Res PV) : SM :=
  (sSeq (sIf (eTest (eBin pEq (eVar 1) (eArgs mkTup aNil))) (sRet (eVar 2)) sNil)
    (sSeq (sSet 3 (eBin pIx (eVar 1) (eC (.int 0))))
    (sSeq (sIf (tOrM (eTest (eArgs (pIsi) (aCons (eVar 0) (aCons (eC (.con (.ty "str"))) aNil)))) (tNotM (eTest (eChain pLe pLt (eC (.int 0)) (eVar 3) (eArgs (one pLen) (aCons (eBin pIx (eVar 0) (eC (.int 1))) aNil)))))) sStuckM sNil)
    (sSeq (sSet 4 (eBin pIx (eVar 0) (eC (.int 1))))
    (sSeq (sSet 5 (eCall 3 self (aCons (eBin pIx (eVar 4) (eVar 3)) (aCons (eSl pSl (eVar 1) (oSome (eC (.int 1))) oNone) (aCons (eVar 2) aNil)))))
    (sRet (eArgs mkTup (aCons (eBin pIx (eVar 0) (eC (.int 0))) (aCons (eBin pAdd (eBin pAdd (eSl pSl (eVar 4) oNone (oSome (eVar 3))) (eArgs mkTup (aCons (eVar 5) aNil))) (eSl pSl (eVar 4) (oSome (eBin pAdd (eVar 3) (eC (.int 1)))) oNone)) aNil)))))))))
def m_replaced : List PV → Store → Res PV := fuelF 6 f_replaced 60
abbrev N_above : List Str := ["tree", "path", "pairs", "node", "move"]
def f_above : SM :=
  (sSeq (sSet 2 (eArgs mkLoc aNil))
    (sSeq (sSet 3 (eVar 0))
    (sSeq (sFor (iVal (eVar 1)) (.one 4)
    (sSeq (sIf (tOrM (eTest (eArgs (pIsi) (aCons (eVar 3) (aCons (eC (.con (.ty "str"))) aNil)))) (tNotM (eTest (eChain pLe pLt (eC (.int 0)) (eVar 4) (eArgs (one pLen) (aCons (eBin pIx (eVar 3) (eC (.int 1))) aNil)))))) sStuckM sNil)
    (sSeq (sExpr (eMeth isListP pAppend (eVar 2) (aCons (eArgs mkTup (aCons (eBin pIx (eVar 3) (eC (.int 0))) (aCons (eVar 4) aNil))) aNil)))
    (sSet 3 (eBin pIx (eBin pIx (eVar 3) (eC (.int 1))) (eVar 4))))))
    (sRet (eArgs (one pTuple) (aCons (eVar 2) aNil))))))
def m_above : List PV → Store → Res PV := runBody 5 f_above
abbrev N_paths_of : List Str := ["tree", "name", "found", "move", "child", "path"]
def f_paths_of (self : List PV → Store → Res PV) : SM :=
  (sSeq (sIf (eTest (eArgs (pIsi) (aCons (eVar 0) (aCons (eC (.con (.ty "str"))) aNil)))) (sRet (eArgs mkLst aNil)) sNil)
    (sSeq (sSet 2 (eArgs mkLoc aNil))
    (sSeq (sIf (eTest (eBin pEq (eBin pIx (eVar 0) (eC (.int 0))) (eVar 1))) (sExpr (eMeth isListP pAppend (eVar 2) (aCons (eArgs mkTup aNil) aNil))) sNil)
    (sSeq (sFor (iEnumM (eBin pIx (eVar 0) (eC (.int 1)))) (.tup [3, 4])
    (sFor (iVal (eCall 2 self (aCons (eVar 4) (aCons (eVar 1) aNil)))) (.one 5)
    (sExpr (eMeth isListP pAppend (eVar 2) (aCons (eBin pAdd (eArgs mkTup (aCons (eVar 3) aNil)) (eVar 5)) aNil)))))
    (sRet (eVar 2))))))
def m_paths_of : List PV → Store → Res PV := fuelF 6 f_paths_of 60
abbrev N_parted : List Str := ["game", "name", "paths", "new", "row", "known", "path", "tree"]
def f_parted : SM :=
  (sSeq (sSet 4 (eCall 2 m_row_of (aCons (eVar 0) (aCons (eVar 1) aNil))))
    (sSeq (sIf (eTest (eBin pIsNot (eCall 2 m_row_of (aCons (eVar 0) (aCons (eVar 3) aNil))) (eC .non))) (sRaise0 "NamesMeet" (aCons (eC (.str "the game declares the set already")) aNil)) sNil)
    (sSeq (sSet 5 (eCall 2 m_paths_of (aCons (eBin pIx (eVar 0) (eC (.int 1))) (aCons (eVar 1) aNil))))
    (sSeq (sFor (iVal (eVar 2)) (.one 6)
    (sIf (eTest (eBin pNotIn (eVar 6) (eVar 5))) (sRaise0 "BadPath" (aCons (eC (.str "there is no node of the set at this path")) aNil)) sNil))
    (sSeq (sSet 7 (eBin pIx (eVar 0) (eC (.int 1))))
    (sSeq (sFor (iVal (eVar 2)) (.one 6)
    (sSet 7 (eCall 3 m_replaced (aCons (eVar 7) (aCons (eVar 6) (aCons (eArgs mkTup (aCons (eVar 3) (aCons (eBin pIx (eCall 2 m_node_at (aCons (eVar 7) (aCons (eVar 6) aNil))) (eC (.int 1))) aNil))) aNil))))))
    (sRet (eArgs mkTup (aCons (eCall 2 m_with_row (aCons (eBin pIx (eVar 0) (eC (.int 0))) (aCons (eArgs mkTup (aCons (eVar 3) (aCons (eBin pIx (eVar 4) (eC (.int 1))) (aCons (eBin pIx (eVar 4) (eC (.int 2))) aNil)))) aNil))) (aCons (eVar 7) aNil))))))))))
def m_parted : List PV → Store → Res PV := runBody 8 f_parted
abbrev N_renamed_nodes : List Str := ["tree", "other", "name", "children", "child"]
def f_renamed_nodes (self : List PV → Store → Res PV) : SM :=
  (sSeq (sIf (eTest (eArgs (pIsi) (aCons (eVar 0) (aCons (eC (.con (.ty "str"))) aNil)))) (sRet (eVar 0)) sNil)
    (sSeq (sSet 3 (eArgs (one pTuple) (aCons (eComp [4] (iVal (eBin pIx (eVar 0) (eC (.int 1)))) (.one 4) tYesM (eCall 3 self (aCons (eVar 4) (aCons (eVar 1) (aCons (eVar 2) aNil))))) aNil)))
    (sSeq (sIf (eTest (eBin pEq (eBin pIx (eVar 0) (eC (.int 0))) (eVar 1))) (sRet (eArgs mkTup (aCons (eVar 2) (aCons (eVar 3) aNil)))) sNil)
    (sRet (eArgs mkTup (aCons (eBin pIx (eVar 0) (eC (.int 0))) (aCons (eVar 3) aNil)))))))
def m_renamed_nodes : List PV → Store → Res PV := fuelF 5 f_renamed_nodes 60
abbrev N_one_way_passes : List Str := ["game", "name", "other", "first", "second", "path", "pair"]
def f_one_way_passes : SM :=
  (sSeq (sFor (iVal (eArgs mkTup (aCons (eArgs mkTup (aCons (eVar 1) (aCons (eVar 2) aNil))) (aCons (eArgs mkTup (aCons (eVar 2) (aCons (eVar 1) aNil))) aNil)))) (.tup [3, 4])
    (sFor (iVal (eCall 2 m_paths_of (aCons (eBin pIx (eVar 0) (eC (.int 1))) (aCons (eVar 3) aNil)))) (.one 5)
    (sIf (eTest (eBin pIn (eVar 4) (eComp [6] (iVal (eCall 2 m_above (aCons (eBin pIx (eVar 0) (eC (.int 1))) (aCons (eVar 5) aNil)))) (.one 6) tYesM (eBin pIx (eVar 6) (eC (.int 0)))))) (sRet (eC (.bl true))) sNil)))
    (sRet (eC (.bl false))))
def m_one_way_passes : List PV → Store → Res PV := runBody 7 f_one_way_passes
abbrev N_mingled : List Str := ["game", "name", "other", "row", "lower"]
def f_mingled : SM :=
  (sSeq (sSet 3 (eCall 2 m_row_of (aCons (eVar 0) (aCons (eVar 1) aNil))))
    (sSeq (sSet 4 (eCall 2 m_row_of (aCons (eVar 0) (aCons (eVar 2) aNil))))
    (sSeq (sIf (tOrM (eTest (eBin pIs (eVar 3) (eC .non))) (tOrM (eTest (eBin pIs (eVar 4) (eC .non))) (tOrM (eTest (eBin pEq (eVar 1) (eVar 2))) (eTest (eBin pNe (eSl pSl (eVar 3) (oSome (eC (.int 1))) oNone) (eSl pSl (eVar 4) (oSome (eC (.int 1))) oNone)))))) (sRaise0 "BadStep" (aCons (eC (.str "the sets are not two alike sets of one owner")) aNil)) sNil)
    (sSeq (sIf (eTest (eCall 3 m_one_way_passes (aCons (eVar 0) (aCons (eVar 1) (aCons (eVar 2) aNil))))) (sRaise0 "BadStep" (aCons (eC (.str "a way passes both sets")) aNil)) sNil)
    (sRet (eArgs mkTup (aCons (eCall 2 m_without_row (aCons (eBin pIx (eVar 0) (eC (.int 0))) (aCons (eVar 2) aNil))) (aCons (eCall 3 m_renamed_nodes (aCons (eBin pIx (eVar 0) (eC (.int 1))) (aCons (eVar 2) (aCons (eVar 1) aNil)))) aNil))))))))
def m_mingled : List PV → Store → Res PV := runBody 5 f_mingled
abbrev N_set_pairs : List Str := ["game", "found", "row", "other"]
def f_set_pairs : SM :=
  (sSeq (sSet 1 (eArgs mkLoc aNil))
    (sSeq (sFor (iVal (eBin pIx (eVar 0) (eC (.int 0)))) (.one 2)
    (sFor (iVal (eBin pIx (eVar 0) (eC (.int 0)))) (.one 3)
    (sIf (tAndM (eTest (eBin pLt (eBin pIx (eVar 2) (eC (.int 0))) (eBin pIx (eVar 3) (eC (.int 0))))) (tAndM (eTest (eBin pEq (eSl pSl (eVar 2) (oSome (eC (.int 1))) oNone) (eSl pSl (eVar 3) (oSome (eC (.int 1))) oNone))) (tNotM (eTest (eCall 3 m_one_way_passes (aCons (eVar 0) (aCons (eBin pIx (eVar 2) (eC (.int 0))) (aCons (eBin pIx (eVar 3) (eC (.int 0))) aNil)))))))) (sExpr (eMeth isListP pAppend (eVar 1) (aCons (eArgs mkTup (aCons (eBin pIx (eVar 2) (eC (.int 0))) (aCons (eBin pIx (eVar 3) (eC (.int 0))) aNil))) aNil))) sNil)))
    (sRet (eVar 1))))
def m_set_pairs : List PV → Store → Res PV := runBody 4 f_set_pairs
abbrev N_law_source : List Str := ["script", "mixed", "cell"]
def f_law_source : SM :=
  (sSeq (sSet 1 (eC (.int 20011)))
    (sSeq (sFor (iVal (eVar 0)) (.one 2)
    (sSet 1 (eBin pMod (eArgs (one pInt) (aCons (eBin pAdd (eBin pAdd (eBin pMul (eVar 1) (eC (.int 48271))) (eBin pMul (eVar 2) (eC (.int 7919)))) (eC (.int 12345))) aNil)) (eC (.int 2147483647)))))
    (sRet (eArgs mkLoc (aCons (eC (.int 0)) (aCons (eC (.int 0)) (aCons (eVar 1) aNil)))))))
def m_law_source : List PV → Store → Res PV := runBody 3 f_law_source
abbrev N_law_draw : List Str := ["script", "source", "limit", "cell", "found"]
def f_law_draw : SM :=
  (sSeq (sIf (tAndM (eTest (eBin pEq (eBin pIx (eVar 1) (eC (.int 1))) (eC (.int 0)))) (eTest (eBin pLt (eBin pIx (eVar 1) (eC (.int 0))) (eArgs (one pLen) (aCons (eVar 0) aNil))))) (sSeq (sSet 3 (eArgs (one pAbs) (aCons (eBin pIx (eVar 0) (eBin pIx (eVar 1) (eC (.int 0)))) aNil)))
    (sSeq (sSub pSet (eVar 1) (eC (.int 0)) (eBin pAdd (eBin pIx (eVar 1) (eC (.int 0))) (eC (.int 1))))
    (sSeq (sIf (eTest (eBin pLt (eVar 3) (eBin pPow (eC (.int 10)) (eC (.int 18))))) (sSeq (sSet 3 (eBin pMod (eArgs (one pInt) (aCons (eBin pAdd (eBin pAdd (eBin pMul (eVar 3) (eC (.int 48271))) (eBin pMul (eBin pIx (eVar 1) (eC (.int 0))) (eC (.int 69621)))) (eBin pIx (eVar 1) (eC (.int 2)))) aNil)) (eC (.int 2147483647))))
    (sSet 3 (eBin pMod (eArgs (one pInt) (aCons (eBin pAdd (eBin pAdd (eBin pMul (eVar 3) (eVar 3)) (eBin pMul (eVar 3) (eC (.int 30011)))) (eBin pIx (eVar 1) (eC (.int 0)))) aNil)) (eC (.int 1000000007))))) sNil)
    (sSub pSet (eVar 1) (eC (.int 1)) (eVar 3))))) sNil)
    (sSeq (sIf (eTest (eBin pGt (eBin pIx (eVar 1) (eC (.int 1))) (eC (.int 0)))) (sSeq (sSet 4 (eBin pMod (eArgs (one pInt) (aCons (eBin pIx (eVar 1) (eC (.int 1))) aNil)) (eVar 2)))
    (sSeq (sSub pSet (eVar 1) (eC (.int 1)) (eBin pFdiv (eBin pIx (eVar 1) (eC (.int 1))) (eVar 2)))
    (sRet (eVar 4)))) sNil)
    (sSeq (sSub pSet (eVar 1) (eC (.int 2)) (eBin pMod (eArgs (one pInt) (aCons (eBin pAdd (eBin pMul (eBin pIx (eVar 1) (eC (.int 2))) (eC (.int 69621))) (eC (.int 4321))) aNil)) (eC (.int 2147483647))))
    (sRet (eBin pMod (eArgs (one pInt) (aCons (eBin pFdiv (eBin pIx (eVar 1) (eC (.int 2))) (eC (.int 97))) aNil)) (eVar 2))))))
def m_law_draw : List PV → Store → Res PV := runBody 5 f_law_draw
abbrev N_law_name : List Str := ["script", "source", "used", "letters", "signs", "name", "k", "base"]
def f_law_name : SM :=
  (sSeq (sSet 3 (eC (.str "abcdefghijklmnopqrstuvwxyz")))
    (sSeq (sSet 4 (eBin pAdd (eVar 3) (eC (.str "0123456789"))))
    (sSeq (sSet 5 (eBin pIx (eVar 3) (eCall 3 m_law_draw (aCons (eVar 0) (aCons (eVar 1) (aCons (eC (.int 26)) aNil))))))
    (sSeq (sFor (iRange1 (eCall 3 m_law_draw (aCons (eVar 0) (aCons (eVar 1) (aCons (eC (.int 3)) aNil))))) (.one 6)
    (sSet 5 (eBin pAdd (eVar 5) (eBin pIx (eVar 4) (eCall 3 m_law_draw (aCons (eVar 0) (aCons (eVar 1) (aCons (eC (.int 36)) aNil))))))))
    (sSeq (sIf (eTest (eBin pEq (eCall 3 m_law_draw (aCons (eVar 0) (aCons (eVar 1) (aCons (eC (.int 6)) aNil)))) (eC (.int 1)))) (sSet 5 (eBin pIx (eArgs mkLst (aCons (eC (.str "p0")) (aCons (eC (.str "p1")) (aCons (eC (.str "p2")) (aCons (eC (.str "m0")) (aCons (eC (.str "m1")) (aCons (eC (.str "m2")) aNil))))))) (eCall 3 m_law_draw (aCons (eVar 0) (aCons (eVar 1) (aCons (eC (.int 6)) aNil)))))) sNil)
    (sSeq (sSet 7 (eVar 5))
    (sSeq (sFor (iRange1 (eBin pAdd (eArgs (one pLen) (aCons (eVar 2) aNil)) (eC (.int 1)))) (.one 6)
    (sIf (eTest (eBin pIn (eVar 5) (eVar 2))) (sSet 5 (eBin pAdd (eVar 7) (eArgs (one pStr) (aCons (eVar 6) aNil)))) sNil))
    (sRet (eVar 5)))))))))
def m_law_name : List PV → Store → Res PV := runBody 8 f_law_name
abbrev N_law_gcd : List Str := ["a", "b", "k"]
def f_law_gcd : SM :=
  (sSeq (sFor (iRange1 (eBin pAdd (eBin pMul (eC (.int 2)) (eUn pBits (eArgs (one pInt) (aCons (eVar 1) aNil)))) (eC (.int 2)))) (.one 2)
    (sSeq (sIf (eTest (eBin pEq (eVar 1) (eC (.int 0)))) (sRet (eVar 0)) sNil)
    (sPar 0 1 (aCons (eVar 1) (aCons (eBin pMod (eArgs (one pInt) (aCons (eVar 0) aNil)) (eVar 1)) aNil)))))
    (sRet (eVar 0)))
def m_law_gcd : List PV → Store → Res PV := runBody 3 f_law_gcd
abbrev N_law_reduced : List Str := ["weights", "common", "weight"]
def f_law_reduced : SM :=
  (sSeq (sSet 1 (eC (.int 0)))
    (sSeq (sFor (iVal (eVar 0)) (.one 2)
    (sSet 1 (eCall 2 m_law_gcd (aCons (eVar 2) (aCons (eVar 1) aNil)))))
    (sSeq (sIf (eTest (eBin pEq (eVar 1) (eC (.int 0)))) (sRet (eArgs (one pTuple) (aCons (eVar 0) aNil))) sNil)
    (sRet (eArgs (one pTuple) (aCons (eComp [2] (iVal (eVar 0)) (.one 2) tYesM (eBin pFdiv (eVar 2) (eVar 1))) aNil))))))
def m_law_reduced : List PV → Store → Res PV := runBody 3 f_law_reduced
abbrev N_law_tree : List Str := ["script", "source", "free", "outcomes", "room", "wish", "stop", "row", "rest", "style", "shared", "children", "move", "other"]
def f_law_tree (self : List PV → Store → Res PV) : SM :=
  (sSeq (sSub pSet (eVar 4) (eC (.int 0)) (eBin pSub (eBin pIx (eVar 4) (eC (.int 0))) (eC (.int 1))))
    (sSeq (sSet 6 (eAndV (eBin pEq (eCall 3 m_law_draw (aCons (eVar 0) (aCons (eVar 1) (aCons (eC (.int 9)) aNil)))) (eC (.int 0))) (eBin pIs (eVar 5) (eC .non))))
    (sSeq (sIf (tOrM (eTest (eBin pEq (eArgs (one pLen) (aCons (eVar 2) aNil)) (eC (.int 0)))) (tOrM (eTest (eBin pLt (eBin pIx (eVar 4) (eC (.int 0))) (eC (.int 0)))) (eTest (eVar 6)))) (sRet (eBin pIx (eVar 3) (eCall 3 m_law_draw (aCons (eVar 0) (aCons (eVar 1) (aCons (eArgs (one pLen) (aCons (eVar 3) aNil)) aNil)))))) sNil)
    (sSeq (sSet 7 (eBin pIx (eVar 2) (eCall 3 m_law_draw (aCons (eVar 0) (aCons (eVar 1) (aCons (eArgs (one pLen) (aCons (eVar 2) aNil)) aNil))))))
    (sSeq (sIf (eTest (eBin pIsNot (eVar 5) (eC .non))) (sSet 7 (eVar 5)) sNil)
    (sSeq (sSet 8 (eComp [13] (iVal (eVar 2)) (.one 13) (eTest (eBin pNe (eBin pIx (eVar 13) (eC (.int 0))) (eBin pIx (eVar 7) (eC (.int 0))))) (eVar 13)))
    (sSeq (sSet 9 (eCall 3 m_law_draw (aCons (eVar 0) (aCons (eVar 1) (aCons (eC (.int 9)) aNil)))))
    (sSeq (sSet 10 (eC .non))
    (sSeq (sIf (tAndM (eTest (eBin pGt (eVar 9) (eC (.int 4)))) (eTest (eBin pGt (eArgs (one pLen) (aCons (eVar 8) aNil)) (eC (.int 0))))) (sSet 10 (eBin pIx (eVar 8) (eCall 3 m_law_draw (aCons (eVar 0) (aCons (eVar 1) (aCons (eArgs (one pLen) (aCons (eVar 8) aNil)) aNil)))))) sNil)
    (sSeq (sSet 11 (eArgs mkLoc aNil))
    (sSeq (sFor (iRange1 (eArgs (one pLen) (aCons (eBin pIx (eVar 7) (eC (.int 2))) aNil))) (.one 12)
    (sIf (tAndM (eTest (eBin pGt (eVar 12) (eC (.int 0)))) (tAndM (eTest (eBin pIs (eVar 5) (eC .non))) (tOrM (eTest (eBin pEq (eVar 9) (eC (.int 4)))) (tAndM (eTest (eBin pEq (eVar 9) (eC (.int 3)))) (eTest (eBin pEq (eCall 3 m_law_draw (aCons (eVar 0) (aCons (eVar 1) (aCons (eC (.int 2)) aNil)))) (eC (.int 0)))))))) (sExpr (eMeth isListP pAppend (eVar 11) (aCons (eBin pIx (eVar 11) (eBin pSub (eVar 12) (eC (.int 1)))) aNil))) (sExpr (eMeth isListP pAppend (eVar 11) (aCons (eCall 6 self (aCons (eVar 0) (aCons (eVar 1) (aCons (eVar 8) (aCons (eVar 3) (aCons (eVar 4) (aCons (eVar 10) aNil))))))) aNil)))))
    (sRet (eArgs mkTup (aCons (eBin pIx (eVar 7) (eC (.int 0))) (aCons (eArgs (one pTuple) (aCons (eVar 11) aNil)) aNil)))))))))))))))
def m_law_tree : List PV → Store → Res PV := fuelF 14 f_law_tree 60
abbrev N_law_row : List Str := ["rows", "name", "row"]
def f_law_row : SM :=
  (sSeq (sFor (iVal (eVar 0)) (.one 2)
    (sIf (eTest (eBin pEq (eBin pIx (eVar 2) (eC (.int 0))) (eVar 1))) (sRet (eVar 2)) sNil))
    (sRet (eC .non)))
def m_law_row : List PV → Store → Res PV := runBody 3 f_law_row
abbrev N_law_nodes : List Str := ["tree", "path", "pairs", "found", "move"]
def f_law_nodes (self : List PV → Store → Res PV) : SM :=
  (sSeq (sIf (eTest (eArgs (pIsi) (aCons (eVar 0) (aCons (eC (.con (.ty "str"))) aNil)))) (sRet (eArgs mkLst aNil)) sNil)
    (sSeq (sSet 3 (eArgs mkLst (aCons (eArgs mkTup (aCons (eVar 1) (aCons (eVar 0) (aCons (eVar 2) aNil)))) aNil)))
    (sSeq (sFor (iRange1 (eArgs (one pLen) (aCons (eBin pIx (eVar 0) (eC (.int 1))) aNil))) (.one 4)
    (sSet 3 (eBin pAdd (eVar 3) (eCall 3 self (aCons (eBin pIx (eBin pIx (eVar 0) (eC (.int 1))) (eVar 4)) (aCons (eBin pAdd (eVar 1) (eArgs mkTup (aCons (eVar 4) aNil))) (aCons (eBin pAdd (eVar 2) (eArgs mkTup (aCons (eArgs mkTup (aCons (eBin pIx (eVar 0) (eC (.int 0))) (aCons (eVar 4) aNil))) aNil))) aNil)))))))
    (sRet (eVar 3)))))
def m_law_nodes : List PV → Store → Res PV := fuelF 5 f_law_nodes 60
abbrev N_law_moved : List Str := ["tree", "name", "order", "new", "children", "child", "move"]
def f_law_moved (self : List PV → Store → Res PV) : SM :=
  (sSeq (sIf (eTest (eArgs (pIsi) (aCons (eVar 0) (aCons (eC (.con (.ty "str"))) aNil)))) (sRet (eVar 0)) sNil)
    (sSeq (sSet 4 (eComp [5] (iVal (eBin pIx (eVar 0) (eC (.int 1)))) (.one 5) tYesM (eCall 4 self (aCons (eVar 5) (aCons (eVar 1) (aCons (eVar 2) (aCons (eVar 3) aNil)))))))
    (sSeq (sIf (eTest (eBin pNe (eBin pIx (eVar 0) (eC (.int 0))) (eVar 1))) (sRet (eArgs mkTup (aCons (eBin pIx (eVar 0) (eC (.int 0))) (aCons (eArgs (one pTuple) (aCons (eVar 4) aNil)) aNil)))) sNil)
    (sSeq (sIf (eTest (eBin pGt (eArgs (one pLen) (aCons (eVar 2) aNil)) (eC (.int 0)))) (sSet 4 (eComp [6] (iVal (eVar 2)) (.one 6) tYesM (eBin pIx (eVar 4) (eVar 6)))) sNil)
    (sRet (eArgs mkTup (aCons (eVar 3) (aCons (eArgs (one pTuple) (aCons (eVar 4) aNil)) aNil))))))))
def m_law_moved : List PV → Store → Res PV := fuelF 7 f_law_moved 60
abbrev N_law_told : List Str := ["answer", "due", "k", "name"]
def f_law_told (self : List PV → Store → Res PV) : SM :=
  (sSeq (sIf (eTest (eBin pIs (eVar 1) (eC .non))) (sRet (eBin pIs (eVar 0) (eC .non))) sNil)
    (sSeq (sIf (tOrM (eTest (eArgs (pIsi) (aCons (eVar 1) (aCons (eC (.con (.ty "bool"))) aNil)))) (eTest (eArgs (pIsi) (aCons (eVar 0) (aCons (eC (.con (.ty "bool"))) aNil))))) (sRet (eAndV (eArgs (pIsi) (aCons (eVar 1) (aCons (eC (.con (.ty "bool"))) aNil))) (eAndV (eArgs (pIsi) (aCons (eVar 0) (aCons (eC (.con (.ty "bool"))) aNil))) (eBin pEq (eVar 0) (eVar 1))))) sNil)
    (sSeq (sIf (eTest (eArgs (pIsi) (aCons (eVar 1) (aCons (eC (.con (.ty "int"))) aNil)))) (sRet (eAndV (eArgs (pIsi) (aCons (eVar 0) (aCons (eC (.con (.ty "int"))) aNil))) (eBin pEq (eVar 0) (eVar 1)))) sNil)
    (sSeq (sIf (eTest (eArgs (pIsi) (aCons (eVar 1) (aCons (eC (.con (.ty "str"))) aNil)))) (sRet (eAndV (eArgs (pIsi) (aCons (eVar 0) (aCons (eC (.con (.ty "str"))) aNil))) (eBin pEq (eVar 0) (eVar 1)))) sNil)
    (sSeq (sIf (eTest (eArgs (pIsi) (aCons (eVar 1) (aCons (eC (.con (.ty "dict"))) aNil)))) (sSeq (sIf (tOrM (tNotM (eTest (eArgs (pIsi) (aCons (eVar 0) (aCons (eC (.con (.ty "dict"))) aNil))))) (eTest (eBin pNe (eArgs (one pSortedA) (aCons (eVar 0) aNil)) (eArgs (one pSortedA) (aCons (eVar 1) aNil))))) (sRet (eC (.bl false))) sNil)
    (sRet (eBin pEq (eArgs (one pLen) (aCons (eComp [3] (iVal (eVar 1)) (.one 3) (tNotM (eTest (eCall 2 self (aCons (eBin pIx (eVar 0) (eVar 3)) (aCons (eBin pIx (eVar 1) (eVar 3)) aNil))))) (eVar 3)) aNil)) (eC (.int 0))))) sNil)
    (sSeq (sIf (tOrM (eTest (eBin pNe (eArgs (pIsi) (aCons (eVar 1) (aCons (eC (.con (.ty "tuple"))) aNil))) (eArgs (pIsi) (aCons (eVar 0) (aCons (eC (.con (.ty "tuple"))) aNil))))) (eTest (eBin pNe (eArgs (pIsi) (aCons (eVar 1) (aCons (eC (.con (.ty "list"))) aNil))) (eArgs (pIsi) (aCons (eVar 0) (aCons (eC (.con (.ty "list"))) aNil)))))) (sRet (eC (.bl false))) sNil)
    (sSeq (sIf (tOrM (tNotM (eTest (eArgs (pIsi) (aCons (eVar 0) (aCons (eArgs mkTup (aCons (eC (.con (.ty "tuple"))) (aCons (eC (.con (.ty "list"))) aNil))) aNil))))) (eTest (eBin pNe (eArgs (one pLen) (aCons (eVar 0) aNil)) (eArgs (one pLen) (aCons (eVar 1) aNil))))) (sRet (eC (.bl false))) sNil)
    (sSeq (sFor (iRange1 (eArgs (one pLen) (aCons (eVar 1) aNil))) (.one 2)
    (sIf (tNotM (eTest (eCall 2 self (aCons (eBin pIx (eVar 0) (eVar 2)) (aCons (eBin pIx (eVar 1) (eVar 2)) aNil))))) (sRet (eC (.bl false))) sNil))
    (sRet (eC (.bl true)))))))))))
def m_law_told : List PV → Store → Res PV := fuelF 4 f_law_told 60
abbrev N_law_breadth : List Str := ["rows", "breadth", "row"]
def f_law_breadth : SM :=
  (sSeq (sSet 1 (eC (.int 1)))
    (sSeq (sFor (iVal (eVar 0)) (.one 2)
    (sSet 1 (eBin pMul (eVar 1) (eArgs (one pLen) (aCons (eBin pIx (eVar 2) (eC (.int 2))) aNil)))))
    (sRet (eVar 1))))
def m_law_breadth : List PV → Store → Res PV := runBody 3 f_law_breadth
abbrev N_law_mark_name : List Str := ["who", "number"]
def f_law_mark_name : SM :=
  (sRet (eBin pAdd (eBin pAdd (eC (.str "again")) (eBin pIx (eArgs mkLst (aCons (eC (.str "zero")) (aCons (eC (.str "one")) (aCons (eC (.str "two")) aNil)))) (eVar 0))) (eArgs (one pStr) (aCons (eVar 1) aNil))))
def m_law_mark_name : List PV → Store → Res PV := runBody 2 f_law_mark_name
abbrev N_law_marked_for : List Str := ["rows", "tree", "who", "past", "marks", "name", "mine", "children", "move", "down"]
def f_law_marked_for (self : List PV → Store → Res PV) : SM :=
  (sSeq (sIf (eTest (eArgs (pIsi) (aCons (eVar 1) (aCons (eC (.con (.ty "str"))) aNil)))) (sRet (eVar 1)) sNil)
    (sSeq (sSet 5 (eBin pIx (eVar 1) (eC (.int 0))))
    (sSeq (sSet 6 (eBin pEq (eBin pIx (eCall 2 m_law_row (aCons (eVar 0) (aCons (eVar 5) aNil))) (eC (.int 1))) (eVar 2)))
    (sSeq (sIf (eTest (eVar 6)) (sSeq (sIf (eTest (eBin pNotIn (eArgs mkTup (aCons (eVar 5) (aCons (eVar 3) aNil))) (eVar 4))) (sExpr (eMeth isListP pAppend (eVar 4) (aCons (eArgs mkTup (aCons (eVar 5) (aCons (eVar 3) aNil))) aNil))) sNil)
    (sSet 5 (eCall 2 m_law_mark_name (aCons (eVar 2) (aCons (eMeth isSeqL pIndex (eVar 4) (aCons (eArgs mkTup (aCons (eVar 5) (aCons (eVar 3) aNil))) aNil)) aNil))))) sNil)
    (sSeq (sSet 7 (eArgs mkLoc aNil))
    (sSeq (sFor (iRange1 (eArgs (one pLen) (aCons (eBin pIx (eVar 1) (eC (.int 1))) aNil))) (.one 8)
    (sSeq (sSet 9 (eVar 3))
    (sSeq (sIf (eTest (eVar 6)) (sSet 9 (eBin pAdd (eVar 3) (eArgs mkTup (aCons (eArgs mkTup (aCons (eVar 5) (aCons (eVar 8) aNil))) aNil)))) sNil)
    (sExpr (eMeth isListP pAppend (eVar 7) (aCons (eCall 5 self (aCons (eVar 0) (aCons (eBin pIx (eBin pIx (eVar 1) (eC (.int 1))) (eVar 8)) (aCons (eVar 2) (aCons (eVar 9) (aCons (eVar 4) aNil)))))) aNil))))))
    (sRet (eArgs mkTup (aCons (eVar 5) (aCons (eArgs (one pTuple) (aCons (eVar 7) aNil)) aNil))))))))))
def m_law_marked_for : List PV → Store → Res PV := fuelF 10 f_law_marked_for 60
abbrev N_law_told_apart : List Str := ["game", "who", "marks", "tree", "rows", "k", "row"]
def f_law_told_apart : SM :=
  (sSeq (sSet 2 (eArgs mkLoc aNil))
    (sSeq (sSet 3 (eCall 5 m_law_marked_for (aCons (eBin pIx (eVar 0) (eC (.int 0))) (aCons (eBin pIx (eVar 0) (eC (.int 1))) (aCons (eVar 1) (aCons (eArgs mkTup aNil) (aCons (eVar 2) aNil)))))))
    (sSeq (sSet 4 (eCompLoc [6] (iVal (eBin pIx (eVar 0) (eC (.int 0)))) (.one 6) (eTest (eBin pNe (eBin pIx (eVar 6) (eC (.int 1))) (eVar 1))) (eVar 6)))
    (sSeq (sFor (iRange1 (eArgs (one pLen) (aCons (eVar 2) aNil))) (.one 5)
    (sExpr (eMeth isListP pAppend (eVar 4) (aCons (eArgs mkTup (aCons (eCall 2 m_law_mark_name (aCons (eVar 1) (aCons (eVar 5) aNil))) (aCons (eVar 1) (aCons (eBin pIx (eCall 2 m_law_row (aCons (eBin pIx (eVar 0) (eC (.int 0))) (aCons (eBin pIx (eBin pIx (eVar 2) (eVar 5)) (eC (.int 0))) aNil))) (eC (.int 2))) aNil)))) aNil))))
    (sRet (eArgs mkTup (aCons (eArgs (one pTuple) (aCons (eArgs (one pSortedA) (aCons (eVar 4) aNil)) aNil)) (aCons (eVar 3) aNil))))))))
def m_law_told_apart : List PV → Store → Res PV := runBody 7 f_law_told_apart
abbrev N_law_owned : List Str := ["script", "source", "owners", "most", "rows", "one", "count", "weights", "k", "row"]
def f_law_owned : SM :=
  (sSeq (sSet 4 (eArgs mkLoc aNil))
    (sSeq (sFor (iVal (eVar 2)) (.one 5)
    (sSeq (sSet 6 (eBin pIx (eArgs mkLst (aCons (eC (.int 2)) (aCons (eC (.int 2)) (aCons (eC (.int 2)) (aCons (eC (.int 3)) (aCons (eC (.int 2)) (aCons (eC (.int 1)) aNil))))))) (eCall 3 m_law_draw (aCons (eVar 0) (aCons (eVar 1) (aCons (eC (.int 6)) aNil))))))
    (sSeq (sIf (eTest (eBin pGt (eVar 6) (eVar 3))) (sSet 6 (eC (.int 1))) sNil)
    (sSeq (sSet 3 (eBin pFdiv (eVar 3) (eVar 6)))
    (sSeq (sSet 7 (eComp [8] (iRange1 (eVar 6)) (.one 8) tYesM (eC (.int 1))))
    (sSeq (sIf (eTest (eBin pEq (eVar 5) (eC (.int 0)))) (sSet 7 (eComp [8] (iRange1 (eVar 6)) (.one 8) tYesM (eBin pAdd (eC (.int 1)) (eCall 3 m_law_draw (aCons (eVar 0) (aCons (eVar 1) (aCons (eC (.int 5)) aNil))))))) sNil)
    (sExpr (eMeth isListP pAppend (eVar 4) (aCons (eArgs mkTup (aCons (eCall 3 m_law_name (aCons (eVar 0) (aCons (eVar 1) (aCons (eComp [9] (iVal (eVar 4)) (.one 9) tYesM (eBin pIx (eVar 9) (eC (.int 0)))) aNil)))) (aCons (eVar 5) (aCons (eCall 1 m_law_reduced (aCons (eVar 7) aNil)) aNil)))) aNil)))))))))
    (sRet (eArgs (one pTuple) (aCons (eArgs (one pSortedA) (aCons (eVar 4) aNil)) aNil)))))
def m_law_owned : List PV → Store → Res PV := runBody 10 f_law_owned
abbrev N_law_outcome_names : List Str := ["script", "source", "least", "more", "outcomes", "k"]
def f_law_outcome_names : SM :=
  (sSeq (sSet 4 (eArgs mkLoc aNil))
    (sSeq (sFor (iRange1 (eBin pAdd (eVar 2) (eCall 3 m_law_draw (aCons (eVar 0) (aCons (eVar 1) (aCons (eVar 3) aNil)))))) (.one 5)
    (sExpr (eMeth isListP pAppend (eVar 4) (aCons (eCall 3 m_law_name (aCons (eVar 0) (aCons (eVar 1) (aCons (eVar 4) aNil)))) aNil))))
    (sRet (eVar 4))))
def m_law_outcome_names : List PV → Store → Res PV := runBody 6 f_law_outcome_names
abbrev N_law_grown_game : List Str := ["script", "source", "owners", "most", "nodes", "rows", "outcomes", "wide", "top", "row"]
def f_law_grown_game : SM :=
  (sSeq (sSet 5 (eCall 4 m_law_owned (aCons (eVar 0) (aCons (eVar 1) (aCons (eVar 2) (aCons (eVar 3) aNil))))))
    (sSeq (sSet 6 (eCall 4 m_law_outcome_names (aCons (eVar 0) (aCons (eVar 1) (aCons (eC (.int 2)) (aCons (eC (.int 4)) aNil))))))
    (sSeq (sSet 7 (eComp [9] (iVal (eVar 5)) (.one 9) (eTest (eBin pGt (eArgs (one pLen) (aCons (eBin pIx (eVar 9) (eC (.int 2))) aNil)) (eC (.int 1)))) (eVar 9)))
    (sSeq (sIf (eTest (eBin pEq (eArgs (one pLen) (aCons (eVar 7) aNil)) (eC (.int 0)))) (sSet 7 (eArgs (one pList) (aCons (eVar 5) aNil))) sNil)
    (sSeq (sSet 8 (eBin pIx (eVar 7) (eCall 3 m_law_draw (aCons (eVar 0) (aCons (eVar 1) (aCons (eArgs (one pLen) (aCons (eVar 7) aNil)) aNil))))))
    (sRet (eArgs mkTup (aCons (eVar 5) (aCons (eCall 6 m_law_tree (aCons (eVar 0) (aCons (eVar 1) (aCons (eArgs (one pList) (aCons (eVar 5) aNil)) (aCons (eVar 6) (aCons (eArgs mkLoc (aCons (eVar 4) aNil)) (aCons (eVar 8) aNil))))))) aNil)))))))))
def m_law_grown_game : List PV → Store → Res PV := runBody 10 f_law_grown_game
abbrev N_law_small : List Str := ["script", "source", "most", "menus", "game", "other"]
def f_law_small : SM :=
  (sSeq (sSet 3 (eArgs mkLst (aCons (eArgs mkLst (aCons (eC (.int 1)) (aCons (eC (.int 2)) aNil))) (aCons (eArgs mkLst (aCons (eC (.int 1)) (aCons (eC (.int 2)) (aCons (eC (.int 0)) aNil)))) (aCons (eArgs mkLst (aCons (eC (.int 1)) (aCons (eC (.int 1)) (aCons (eC (.int 2)) aNil)))) (aCons (eArgs mkLst (aCons (eC (.int 1)) (aCons (eC (.int 2)) (aCons (eC (.int 2)) aNil)))) (aCons (eArgs mkLst (aCons (eC (.int 1)) (aCons (eC (.int 1)) (aCons (eC (.int 2)) (aCons (eC (.int 2)) aNil))))) (aCons (eArgs mkLst (aCons (eC (.int 1)) (aCons (eC (.int 2)) (aCons (eC (.int 1)) (aCons (eC (.int 0)) aNil))))) (aCons (eArgs mkLst (aCons (eC (.int 2)) (aCons (eC (.int 1)) (aCons (eC (.int 2)) (aCons (eC (.int 0)) aNil))))) (aCons (eArgs mkLst (aCons (eC (.int 1)) (aCons (eC (.int 0)) aNil))) (aCons (eArgs mkLst (aCons (eC (.int 2)) (aCons (eC (.int 2)) (aCons (eC (.int 1)) aNil)))) (aCons (eArgs mkLst (aCons (eC (.int 1)) (aCons (eC (.int 2)) (aCons (eC (.int 0)) (aCons (eC (.int 2)) aNil))))) aNil))))))))))))
    (sSeq (sSet 4 (eCall 5 m_law_grown_game (aCons (eVar 0) (aCons (eVar 1) (aCons (eBin pIx (eVar 3) (eCall 3 m_law_draw (aCons (eVar 0) (aCons (eVar 1) (aCons (eC (.int 10)) aNil))))) (aCons (eVar 2) (aCons (eC (.int 14)) aNil)))))))
    (sSeq (sSet 5 (eVar 4))
    (sSeq (sIf (eTest (eBin pGt (eCall 3 m_law_draw (aCons (eVar 0) (aCons (eVar 1) (aCons (eC (.int 3)) aNil)))) (eC (.int 0)))) (sSet 5 (eCall 2 m_law_told_apart (aCons (eCall 2 m_law_told_apart (aCons (eVar 4) (aCons (eC (.int 1)) aNil))) (aCons (eC (.int 2)) aNil)))) sNil)
    (sSeq (sIf (tAndM (eTest (eBin pLe (eCall 1 m_law_breadth (aCons (eBin pIx (eVar 5) (eC (.int 0))) aNil)) (eBin pAdd (eVar 2) (eBin pFdiv (eVar 2) (eC (.int 2)))))) (eTest (eBin pLe (eArgs (one pLen) (aCons (eBin pIx (eVar 5) (eC (.int 0))) aNil)) (eC (.int 40))))) (sRet (eVar 5)) sNil)
    (sRet (eVar 4)))))))
def m_law_small : List PV → Store → Res PV := runBody 6 f_law_small
abbrev N_law_own_parted : List Str := ["tree", "path", "paths", "new", "children", "move"]
def f_law_own_parted (self : List PV → Store → Res PV) : SM :=
  (sSeq (sIf (eTest (eArgs (pIsi) (aCons (eVar 0) (aCons (eC (.con (.ty "str"))) aNil)))) (sRet (eVar 0)) sNil)
    (sSeq (sSet 4 (eArgs mkLoc aNil))
    (sSeq (sFor (iRange1 (eArgs (one pLen) (aCons (eBin pIx (eVar 0) (eC (.int 1))) aNil))) (.one 5)
    (sExpr (eMeth isListP pAppend (eVar 4) (aCons (eCall 4 self (aCons (eBin pIx (eBin pIx (eVar 0) (eC (.int 1))) (eVar 5)) (aCons (eBin pAdd (eVar 1) (eArgs mkTup (aCons (eVar 5) aNil))) (aCons (eVar 2) (aCons (eVar 3) aNil))))) aNil))))
    (sSeq (sIf (eTest (eBin pIn (eVar 1) (eVar 2))) (sRet (eArgs mkTup (aCons (eVar 3) (aCons (eArgs (one pTuple) (aCons (eVar 4) aNil)) aNil)))) sNil)
    (sRet (eArgs mkTup (aCons (eBin pIx (eVar 0) (eC (.int 0))) (aCons (eArgs (one pTuple) (aCons (eVar 4) aNil)) aNil))))))))
def m_law_own_parted : List PV → Store → Res PV := fuelF 6 f_law_own_parted 60
abbrev N_law_parted_or : List Str := ["game", "name", "paths", "new", "e"]
def f_law_parted_or : SM :=
  (sTryM [⟨"NamesMeet", 4, clNone fun a => (sRet (eArgs mkLst (aCons (eC (.str "meet")) (aCons (eIsE0 a false (eVar 4)) aNil))))⟩,
    ⟨"BadPath", 4, clNone fun a => (sRet (eArgs mkLst (aCons (eC (.str "path")) (aCons (eIsE0 a false (eVar 4)) aNil))))⟩] (sRet (eCallX 4 m_parted (aCons (eVar 0) (aCons (eVar 1) (aCons (eVar 2) (aCons (eVar 3) aNil)))))))
def m_law_parted_or : List PV → Store → Res PV := runBody 5 f_law_parted_or
abbrev N_law_mingled_or : List Str := ["game", "name", "other", "e"]
def f_law_mingled_or : SM :=
  (sTryM [⟨"BadStep", 3, clNone fun a => (sRet (eArgs mkLst (aCons (eC (.str "step")) (aCons (eIsE0 a false (eVar 3)) aNil))))⟩] (sRet (eCallX 3 m_mingled (aCons (eVar 0) (aCons (eVar 1) (aCons (eVar 2) aNil))))))
def m_law_mingled_or : List PV → Store → Res PV := runBody 4 f_law_mingled_or
abbrev N_law_can_mingle : List Str := ["game", "name", "other", "one", "two", "path", "node", "pairs", "passed", "pair"]
def f_law_can_mingle : SM :=
  (sSeq (sSet 3 (eCall 2 m_law_row (aCons (eBin pIx (eVar 0) (eC (.int 0))) (aCons (eVar 1) aNil))))
    (sSeq (sSet 4 (eCall 2 m_law_row (aCons (eBin pIx (eVar 0) (eC (.int 0))) (aCons (eVar 2) aNil))))
    (sSeq (sIf (tOrM (eTest (eBin pIs (eVar 3) (eC .non))) (tOrM (eTest (eBin pIs (eVar 4) (eC .non))) (tOrM (eTest (eBin pEq (eVar 1) (eVar 2))) (eTest (eBin pNe (eSl pSl (eVar 3) (oSome (eC (.int 1))) oNone) (eSl pSl (eVar 4) (oSome (eC (.int 1))) oNone)))))) (sRet (eC (.bl false))) sNil)
    (sSeq (sFor (iVal (eCall 3 m_law_nodes (aCons (eBin pIx (eVar 0) (eC (.int 1))) (aCons (eArgs mkTup aNil) (aCons (eArgs mkTup aNil) aNil))))) (.tup [5, 6, 7])
    (sSeq (sSet 8 (eComp [9] (iVal (eVar 7)) (.one 9) tYesM (eBin pIx (eVar 9) (eC (.int 0)))))
    (sIf (tOrM (tAndM (eTest (eBin pEq (eBin pIx (eVar 6) (eC (.int 0))) (eVar 1))) (eTest (eBin pIn (eVar 2) (eVar 8)))) (tAndM (eTest (eBin pEq (eBin pIx (eVar 6) (eC (.int 0))) (eVar 2))) (eTest (eBin pIn (eVar 1) (eVar 8))))) (sRet (eC (.bl false))) sNil)))
    (sRet (eC (.bl true)))))))
def m_law_can_mingle : List PV → Store → Res PV := runBody 10 f_law_can_mingle
abbrev N_law : List Str := ["script", "source", "game", "row", "nodes", "paths", "strange", "names", "new", "told", "pairs", "one", "k", "rows", "tree", "others", "two", "due", "other"]
def f_law : SM :=
  (sSeq (sSet 1 (eCall 1 m_law_source (aCons (eVar 0) aNil)))
    (sSeq (sSet 2 (eCall 3 m_law_small (aCons (eVar 0) (aCons (eVar 1) (aCons (eC (.int 24)) aNil)))))
    (sSeq (sTg (.tup [13, 14]) (eVar 2))
    (sSeq (sSet 3 (eBin pIx (eVar 13) (eCall 3 m_law_draw (aCons (eVar 0) (aCons (eVar 1) (aCons (eArgs (one pLen) (aCons (eVar 13) aNil)) aNil))))))
    (sSeq (sSet 4 (eCall 3 m_law_nodes (aCons (eVar 14) (aCons (eArgs mkTup aNil) (aCons (eArgs mkTup aNil) aNil)))))
    (sSeq (sSet 5 (eCompLoc [11] (iVal (eVar 4)) (.one 11) (tAndM (eTest (eBin pEq (eBin pIx (eBin pIx (eVar 11) (eC (.int 1))) (eC (.int 0))) (eBin pIx (eVar 3) (eC (.int 0))))) (eTest (eBin pEq (eCall 3 m_law_draw (aCons (eVar 0) (aCons (eVar 1) (aCons (eC (.int 2)) aNil)))) (eC (.int 0))))) (eBin pIx (eVar 11) (eC (.int 0)))))
    (sSeq (sSet 6 (eBin pEq (eCall 3 m_law_draw (aCons (eVar 0) (aCons (eVar 1) (aCons (eC (.int 4)) aNil)))) (eC (.int 0))))
    (sSeq (sIf (eTest (eVar 6)) (sSeq (sSet 15 (eBin pAdd (eComp [11] (iVal (eVar 4)) (.one 11) (eTest (eBin pNe (eBin pIx (eBin pIx (eVar 11) (eC (.int 1))) (eC (.int 0))) (eBin pIx (eVar 3) (eC (.int 0))))) (eBin pIx (eVar 11) (eC (.int 0)))) (eArgs mkLst (aCons (eArgs mkTup (aCons (eC (.int 64)) aNil)) aNil))))
    (sExpr (eMeth isListP pAppend (eVar 5) (aCons (eBin pIx (eVar 15) (eCall 3 m_law_draw (aCons (eVar 0) (aCons (eVar 1) (aCons (eArgs (one pLen) (aCons (eVar 15) aNil)) aNil))))) aNil)))) sNil)
    (sSeq (sSet 7 (eComp [11] (iVal (eVar 13)) (.one 11) tYesM (eBin pIx (eVar 11) (eC (.int 0)))))
    (sSeq (sSet 8 (eCall 3 m_law_name (aCons (eVar 0) (aCons (eVar 1) (aCons (eVar 7) aNil)))))
    (sSeq (sIf (eTest (eBin pEq (eCall 3 m_law_draw (aCons (eVar 0) (aCons (eVar 1) (aCons (eC (.int 5)) aNil)))) (eC (.int 0)))) (sSet 8 (eBin pIx (eVar 7) (eCall 3 m_law_draw (aCons (eVar 0) (aCons (eVar 1) (aCons (eArgs (one pLen) (aCons (eVar 7) aNil)) aNil)))))) sNil)
    (sSeq (sSet 9 (eCall 4 m_law_parted_or (aCons (eVar 2) (aCons (eBin pIx (eVar 3) (eC (.int 0))) (aCons (eArgs (one pList) (aCons (eVar 5) aNil)) (aCons (eVar 8) aNil))))))
    (sSeq (sIf (eTest (eBin pIn (eVar 8) (eVar 7))) (sIf (tNotM (eTest (eCall 2 m_law_told (aCons (eVar 9) (aCons (eArgs mkLst (aCons (eC (.str "meet")) (aCons (eC (.bl false)) aNil))) aNil))))) (sRet (eC (.bl false))) sNil) (sIf (eTest (eVar 6)) (sIf (tNotM (eTest (eCall 2 m_law_told (aCons (eVar 9) (aCons (eArgs mkLst (aCons (eC (.str "path")) (aCons (eC (.bl false)) aNil))) aNil))))) (sRet (eC (.bl false))) sNil) (sSeq (sSet 17 (eArgs mkTup (aCons (eArgs (one pTuple) (aCons (eArgs (one pSortedA) (aCons (eBin pAdd (eVar 13) (eArgs mkTup (aCons (eArgs mkTup (aCons (eVar 8) (aCons (eBin pIx (eVar 3) (eC (.int 1))) (aCons (eBin pIx (eVar 3) (eC (.int 2))) aNil)))) aNil))) aNil)) aNil)) (aCons (eCall 4 m_law_own_parted (aCons (eVar 14) (aCons (eArgs mkTup aNil) (aCons (eVar 5) (aCons (eVar 8) aNil))))) aNil))))
    (sSeq (sIf (tOrM (tNotM (eTest (eCall 2 m_law_told (aCons (eVar 9) (aCons (eVar 17) aNil))))) (tNotM (eTest (eCall 2 m_law_told (aCons (eCall 3 m_law_mingled_or (aCons (eVar 17) (aCons (eBin pIx (eVar 3) (eC (.int 0))) (aCons (eVar 8) aNil)))) (aCons (eVar 2) aNil)))))) (sRet (eC (.bl false))) sNil)
    (sSet 2 (eVar 17))))))
    (sSeq (sSet 10 (eArgs mkLoc aNil))
    (sSeq (sFor (iVal (eBin pIx (eVar 2) (eC (.int 0)))) (.one 11)
    (sFor (iVal (eBin pIx (eVar 2) (eC (.int 0)))) (.one 16)
    (sIf (tAndM (eTest (eBin pLt (eBin pIx (eVar 11) (eC (.int 0))) (eBin pIx (eVar 16) (eC (.int 0))))) (eTest (eCall 3 m_law_can_mingle (aCons (eVar 2) (aCons (eBin pIx (eVar 11) (eC (.int 0))) (aCons (eBin pIx (eVar 16) (eC (.int 0))) aNil)))))) (sExpr (eMeth isListP pAppend (eVar 10) (aCons (eArgs mkTup (aCons (eBin pIx (eVar 11) (eC (.int 0))) (aCons (eBin pIx (eVar 16) (eC (.int 0))) aNil))) aNil))) sNil)))
    (sSeq (sIf (tNotM (eTest (eCall 2 m_law_told (aCons (eCall 1 m_set_pairs (aCons (eVar 2) aNil)) (aCons (eVar 10) aNil))))) (sRet (eC (.bl false))) sNil)
    (sSeq (sSet 7 (eBin pAdd (eComp [11] (iVal (eBin pIx (eVar 2) (eC (.int 0)))) (.one 11) tYesM (eBin pIx (eVar 11) (eC (.int 0)))) (eArgs mkLst (aCons (eC (.str "absent")) aNil))))
    (sSeq (sFor (iRange1 (eC (.int 4))) (.one 12)
    (sSeq (sSet 11 (eBin pIx (eVar 7) (eCall 3 m_law_draw (aCons (eVar 0) (aCons (eVar 1) (aCons (eArgs (one pLen) (aCons (eVar 7) aNil)) aNil))))))
    (sSeq (sSet 16 (eBin pIx (eVar 7) (eCall 3 m_law_draw (aCons (eVar 0) (aCons (eVar 1) (aCons (eArgs (one pLen) (aCons (eVar 7) aNil)) aNil))))))
    (sSeq (sSet 9 (eCall 3 m_law_mingled_or (aCons (eVar 2) (aCons (eVar 11) (aCons (eVar 16) aNil)))))
    (sIf (tNotM (eTest (eCall 3 m_law_can_mingle (aCons (eVar 2) (aCons (eVar 11) (aCons (eVar 16) aNil)))))) (sIf (tNotM (eTest (eCall 2 m_law_told (aCons (eVar 9) (aCons (eArgs mkLst (aCons (eC (.str "step")) (aCons (eC (.bl false)) aNil))) aNil))))) (sRet (eC (.bl false))) sNil) (sSeq (sSet 17 (eArgs mkTup (aCons (eArgs (one pTuple) (aCons (eComp [18] (iVal (eBin pIx (eVar 2) (eC (.int 0)))) (.one 18) (eTest (eBin pNe (eBin pIx (eVar 18) (eC (.int 0))) (eVar 16))) (eVar 18)) aNil)) (aCons (eCall 4 m_law_moved (aCons (eBin pIx (eVar 2) (eC (.int 1))) (aCons (eVar 16) (aCons (eArgs mkTup aNil) (aCons (eVar 11) aNil))))) aNil))))
    (sIf (tNotM (eTest (eCall 2 m_law_told (aCons (eVar 9) (aCons (eVar 17) aNil))))) (sRet (eC (.bl false))) sNil)))))))
    (sRet (eC (.bl true)))))))))))))))))))))
def m_law : List PV → Store → Res PV := runBody 19 f_law
end
end PL
/-! PL, part n: the drawing of scripts. -/
namespace PL
open PySem PySem.Spec PyProof.Rows L2
abbrev scr (ns : List Int) : PV := .frz (ns.map .int)
/-- the source's place -/
def SrcAt (st : Store) (l : Nat) : Prop := ∃ a b c : Int, st[l]? = some (.lst [.int a, .int b, .int c]) ∧ 0 ≤ a
theorem ixN3_0 : ixN 3 0 = some 0 := rfl
theorem ixN3_1 : ixN 3 1 = some 1 := rfl
theorem ixN3_2 : ixN 3 2 = some 2 := rfl
theorem log97 : (Nat.log2 97 < 9000) = True := eq_true (by decide)
theorem draw_ok {ns : List Int} {l : Nat} {lim : Int} {st : Store} (hs : SrcAt st l) (hl : 0 < lim) (hl2 : lim.natAbs.log2 < 9000) :
    Sat (m_law_draw [scr ns, .loc l, .int lim] st) fun v s => ∃ r o, v = .int r ∧ 0 ≤ r ∧ r < lim ∧ s = st.set l o ∧ SrcAt s l := by
  obtain ⟨a, b, c, hs, ha⟩ := hs
  refine sat_body ?_
  unfold f_law_draw
  have hlt : l < st.length := (List.getElem?_eq_some_iff.mp hs).1
  have g : ∀ o, (st.set l o)[l]? = some o := fun o => List.getElem?_set_self hlt
  have ss : ∀ o o', (st.set l o).set l o' = st.set l o' := fun o o' => List.set_set ..
  have fin1 : ∀ a b c : Int, 0 ≤ a → 0 < b → ∃ r o, PV.int (b % lim) = .int r ∧ 0 ≤ r ∧ r < lim ∧ st.set l (.lst [.int a, .int (b / lim), .int c]) = st.set l o ∧ SrcAt (st.set l (.lst [.int a, .int (b / lim), .int c])) l :=
    fun a b c h0 h1 => ⟨_, _, rfl, Int.emod_nonneg _ (by omega), Int.emod_lt_of_pos _ hl, rfl, a, _, c, g _, h0⟩
  have fin2 : ∀ a b c : Int, 0 ≤ a → ∃ r o, PV.int (c % 2147483647 / 97 % lim) = .int r ∧ 0 ≤ r ∧ r < lim ∧ st.set l (.lst [.int a, .int b, .int (c % 2147483647)]) = st.set l o ∧ SrcAt (st.set l (.lst [.int a, .int b, .int (c % 2147483647)])) l :=
    fun a b c h0 => ⟨_, _, rfl, Int.emod_nonneg _ (by omega), Int.emod_lt_of_pos _ hl, rfl, a, b, _, g _, h0⟩
  have p64 : ∀ n : Nat, n < 18446744073709551616 → n < 2 ^ 64 := fun n h => by simpa using h
  have m64 : ∀ x : Int, ((x % 2147483647).natAbs < 18446744073709551616) = True := fun x => eq_true (by
    have := Int.emod_nonneg x (show (2147483647 : Int) ≠ 0 by decide)
    have := Int.emod_lt_of_pos x (show (0 : Int) < 2147483647 by decide)
    omega)
  by_cases hb : b = 0
  · by_cases ha2 : a < (ns.length : Int)
    · obtain ⟨k, rfl⟩ := Int.eq_ofNat_of_zero_le ha
      have hk : k < ns.length := by omega
      have e : (ns.map PV.int)[k]? = some (.int ns[k]) := by rw [List.getElem?_map, List.getElem?_eq_getElem hk]; rfl
      simp only [sat_ok, sat_bind, sat_v, sat_c, sat_bin, sat_un, sat_test, sat_truth, sat_and, sat_or, sat_not, sat_yes, sat_andv, sat_notv, sat_chain, sat_nil, sat_cons, sat_args, sat_call, sat_callX, sat_meth, sat_one, sat_oNone, sat_oSome, sat_sl, sat_tup, sat_lst, sat_loc, ss_nil, ss_seq, ss_set, ss_expr, ss_ret, ss_retN, ss_if, ss_tg, ss_par, ss_sub, ss_for, sat_comp, setTg, setTgs, wipeP, sizeLine_eq, List.map_cons, List.map_nil, List.length_cons, List.length_nil, List.cons_append, List.nil_append, List.set_cons_zero, List.set_cons_succ, List.getElem?_cons_zero, List.getElem?_cons_succ, Nat.reduceAdd, Nat.reduceSub, Nat.reduceLeDiff, List.reduceReplicate, Option.some.injEq, exists_eq_left', true_and, and_true, Nat.zero_add, o_addI, o_addS, o_addT, o_addL, o_subI, o_mulI, o_fdivI, o_modI, o_powI, o_negI, o_eqI, o_neI, o_eqS, o_neS, o_ltI, o_gtI, o_leI, o_geI, o_ltS, o_geS, o_inS, o_notInS, o_isN, o_isNotN, o_isT, o_isNotT, o_isS, o_isNotS, o_int, o_intB, o_abs, o_str, o_lenT, o_lenL, o_lenF, o_lenS, o_ixT, o_ixL, o_ixF, ixW_0, ixW_1, ixW_2, o_isStr, o_tupL, o_tupT, o_listT, o_listL, o_listLocT, o_gcd, o_bits, o_finF, o_finT, sat_iVal, sat_iEnum, sat_iRange1, sat_iRange2, o_itT, o_itL, o_itF, o_itS, o_enT, o_rng, o_ixP hs, o_set hs, hb, decide_true, if_true, List.length_map, decide_eq_true ha2]
      refine ixW_of e ?_
      simp only [sat_ok, sat_bind, sat_v, sat_c, sat_bin, sat_un, sat_test, sat_truth, sat_and, sat_or, sat_not, sat_yes, sat_andv, sat_notv, sat_chain, sat_nil, sat_cons, sat_args, sat_call, sat_callX, sat_meth, sat_one, sat_oNone, sat_oSome, sat_sl, sat_tup, sat_lst, sat_loc, ss_nil, ss_seq, ss_set, ss_expr, ss_ret, ss_retN, ss_if, ss_tg, ss_par, ss_sub, ss_for, sat_comp, setTg, setTgs, wipeP, sizeLine_eq, List.map_cons, List.map_nil, List.length_cons, List.length_nil, List.cons_append, List.nil_append, List.set_cons_zero, List.set_cons_succ, List.getElem?_cons_zero, List.getElem?_cons_succ, Nat.reduceAdd, Nat.reduceSub, Nat.reduceLeDiff, List.reduceReplicate, Option.some.injEq, exists_eq_left', true_and, and_true, Nat.zero_add, o_addI, o_addS, o_addT, o_addL, o_subI, o_mulI, o_fdivI, o_modI, o_powI, o_negI, o_eqI, o_neI, o_eqS, o_neS, o_ltI, o_gtI, o_leI, o_geI, o_ltS, o_geS, o_inS, o_notInS, o_isN, o_isNotN, o_isT, o_isNotT, o_isS, o_isNotS, o_int, o_intB, o_abs, o_str, o_lenT, o_lenL, o_lenF, o_lenS, o_ixT, o_ixL, o_ixF, ixW_0, ixW_1, ixW_2, o_isStr, o_tupL, o_tupT, o_listT, o_listL, o_listLocT, o_gcd, o_bits, o_finF, o_finT, sat_iVal, sat_iEnum, sat_iRange1, sat_iRange2, o_itT, o_itL, o_itF, o_itS, o_enT, o_rng, Int.reduceLE, Int.reduceLT, nabs, Nat.reducePow, Nat.reduceLT, Int.reduceToNat, Int.reducePow, true_and, and_true, or_true, true_or, and_self, if_true, if_false, Bool.false_eq_true, decide_true, decide_false, not_false_eq_true, List.length_map, o_ixP hs, o_set hs, ixN3_0, ixN3_1, ixN3_2, o_ixP (g _), o_set (g _), ss, m64, hl, hl2, log97]
      generalize (if ns[k] < 0 then -ns[k] else ns[k]) = cell
      split
      · split
        · rename_i h
          refine fin1 _ _ _ ?_ (by simpa using h)
          omega
        · refine fin2 _ _ _ ?_
          omega
      · split
        · rename_i h
          refine fin1 _ _ _ ?_ (by simpa using h)
          omega
        · refine fin2 _ _ _ ?_
          omega
    · simp only [sat_ok, sat_bind, sat_v, sat_c, sat_bin, sat_un, sat_test, sat_truth, sat_and, sat_or, sat_not, sat_yes, sat_andv, sat_notv, sat_chain, sat_nil, sat_cons, sat_args, sat_call, sat_callX, sat_meth, sat_one, sat_oNone, sat_oSome, sat_sl, sat_tup, sat_lst, sat_loc, ss_nil, ss_seq, ss_set, ss_expr, ss_ret, ss_retN, ss_if, ss_tg, ss_par, ss_sub, ss_for, sat_comp, setTg, setTgs, wipeP, sizeLine_eq, List.map_cons, List.map_nil, List.length_cons, List.length_nil, List.cons_append, List.nil_append, List.set_cons_zero, List.set_cons_succ, List.getElem?_cons_zero, List.getElem?_cons_succ, Nat.reduceAdd, Nat.reduceSub, Nat.reduceLeDiff, List.reduceReplicate, Option.some.injEq, exists_eq_left', true_and, and_true, Nat.zero_add, o_addI, o_addS, o_addT, o_addL, o_subI, o_mulI, o_fdivI, o_modI, o_powI, o_negI, o_eqI, o_neI, o_eqS, o_neS, o_ltI, o_gtI, o_leI, o_geI, o_ltS, o_geS, o_inS, o_notInS, o_isN, o_isNotN, o_isT, o_isNotT, o_isS, o_isNotS, o_int, o_intB, o_abs, o_str, o_lenT, o_lenL, o_lenF, o_lenS, o_ixT, o_ixL, o_ixF, ixW_0, ixW_1, ixW_2, o_isStr, o_tupL, o_tupT, o_listT, o_listL, o_listLocT, o_gcd, o_bits, o_finF, o_finT, sat_iVal, sat_iEnum, sat_iRange1, sat_iRange2, o_itT, o_itL, o_itF, o_itS, o_enT, o_rng, Int.reduceLE, Int.reduceLT, nabs, Nat.reducePow, Nat.reduceLT, Int.reduceToNat, Int.reducePow, true_and, and_true, or_true, true_or, and_self, if_true, if_false, Bool.false_eq_true, decide_true, decide_false, not_false_eq_true, List.length_map, o_ixP hs, o_set hs, hb, decide_eq_false ha2, ixN3_0, ixN3_1, ixN3_2, o_ixP (g _), o_set (g _), ss, m64, hl, hl2, log97]
      exact fin2 _ _ _ ha
  · simp only [sat_ok, sat_bind, sat_v, sat_c, sat_bin, sat_un, sat_test, sat_truth, sat_and, sat_or, sat_not, sat_yes, sat_andv, sat_notv, sat_chain, sat_nil, sat_cons, sat_args, sat_call, sat_callX, sat_meth, sat_one, sat_oNone, sat_oSome, sat_sl, sat_tup, sat_lst, sat_loc, ss_nil, ss_seq, ss_set, ss_expr, ss_ret, ss_retN, ss_if, ss_tg, ss_par, ss_sub, ss_for, sat_comp, setTg, setTgs, wipeP, sizeLine_eq, List.map_cons, List.map_nil, List.length_cons, List.length_nil, List.cons_append, List.nil_append, List.set_cons_zero, List.set_cons_succ, List.getElem?_cons_zero, List.getElem?_cons_succ, Nat.reduceAdd, Nat.reduceSub, Nat.reduceLeDiff, List.reduceReplicate, Option.some.injEq, exists_eq_left', true_and, and_true, Nat.zero_add, o_addI, o_addS, o_addT, o_addL, o_subI, o_mulI, o_fdivI, o_modI, o_powI, o_negI, o_eqI, o_neI, o_eqS, o_neS, o_ltI, o_gtI, o_leI, o_geI, o_ltS, o_geS, o_inS, o_notInS, o_isN, o_isNotN, o_isT, o_isNotT, o_isS, o_isNotS, o_int, o_intB, o_abs, o_str, o_lenT, o_lenL, o_lenF, o_lenS, o_ixT, o_ixL, o_ixF, ixW_0, ixW_1, ixW_2, o_isStr, o_tupL, o_tupT, o_listT, o_listL, o_listLocT, o_gcd, o_bits, o_finF, o_finT, sat_iVal, sat_iEnum, sat_iRange1, sat_iRange2, o_itT, o_itL, o_itF, o_itS, o_enT, o_rng, Int.reduceLE, Int.reduceLT, nabs, Nat.reducePow, Nat.reduceLT, Int.reduceToNat, Int.reducePow, true_and, and_true, or_true, true_or, and_self, if_true, if_false, Bool.false_eq_true, decide_true, decide_false, not_false_eq_true, List.length_map, o_ixP hs, o_set hs, decide_eq_false hb, ixN3_0, ixN3_1, ixN3_2, o_ixP (g _), o_set (g _), ss, m64, hl, hl2, log97]
    split
    · rename_i h
      exact fin1 _ _ _ ha (by simpa using h)
    · exact fin2 _ _ _ ha
theorem source_ok {ns : List Int} {st : Store} : Sat (m_law_source [scr ns] st) fun v s => v = .loc st.length ∧ ∃ o, s = st ++ [o] ∧ SrcAt s st.length := by
  refine sat_body ?_
  unfold f_law_source
  simp only [sat_ok, sat_bind, sat_v, sat_c, sat_bin, sat_un, sat_test, sat_truth, sat_and, sat_or, sat_not, sat_yes, sat_andv, sat_notv, sat_chain, sat_nil, sat_cons, sat_args, sat_call, sat_callX, sat_meth, sat_one, sat_oNone, sat_oSome, sat_sl, sat_tup, sat_lst, sat_loc, ss_nil, ss_seq, ss_set, ss_expr, ss_ret, ss_retN, ss_if, ss_tg, ss_par, ss_sub, ss_for, sat_comp, setTg, setTgs, wipeP, sizeLine_eq, List.map_cons, List.map_nil, List.length_cons, List.length_nil, List.cons_append, List.nil_append, List.set_cons_zero, List.set_cons_succ, List.getElem?_cons_zero, List.getElem?_cons_succ, Nat.reduceAdd, Nat.reduceSub, Nat.reduceLeDiff, List.reduceReplicate, Option.some.injEq, exists_eq_left', true_and, and_true, Nat.zero_add, o_addI, o_addS, o_addT, o_addL, o_subI, o_mulI, o_fdivI, o_modI, o_powI, o_negI, o_eqI, o_neI, o_eqS, o_neS, o_ltI, o_gtI, o_leI, o_geI, o_ltS, o_geS, o_inS, o_notInS, o_isN, o_isNotN, o_isT, o_isNotT, o_isS, o_isNotS, o_int, o_intB, o_abs, o_str, o_lenT, o_lenL, o_lenF, o_lenS, o_ixT, o_ixL, o_ixF, ixW_0, ixW_1, ixW_2, o_isStr, o_tupL, o_tupT, o_listT, o_listL, o_listLocT, o_gcd, o_bits, o_finF, o_finT, sat_iVal, sat_iEnum, sat_iRange1, sat_iRange2, o_itT, o_itL, o_itF, o_itS, o_enT, o_rng]
  refine for_inv0 (fun e s => s = st ∧ ∃ (m : Int) (z : Option PV), e = [some (scr ns), some (.int m), z]) ⟨rfl, _, _, rfl⟩ ?_ ?_
  · rintro v e s hv ⟨rfl, m, z, rfl⟩
    obtain ⟨c, -, rfl⟩ := List.mem_map.mp hv
    simp only [sat_ok, sat_bind, sat_v, sat_c, sat_bin, sat_un, sat_test, sat_truth, sat_and, sat_or, sat_not, sat_yes, sat_andv, sat_notv, sat_chain, sat_nil, sat_cons, sat_args, sat_call, sat_callX, sat_meth, sat_one, sat_oNone, sat_oSome, sat_sl, sat_tup, sat_lst, sat_loc, ss_nil, ss_seq, ss_set, ss_expr, ss_ret, ss_retN, ss_if, ss_tg, ss_par, ss_sub, ss_for, sat_comp, setTg, setTgs, wipeP, sizeLine_eq, List.map_cons, List.map_nil, List.length_cons, List.length_nil, List.cons_append, List.nil_append, List.set_cons_zero, List.set_cons_succ, List.getElem?_cons_zero, List.getElem?_cons_succ, Nat.reduceAdd, Nat.reduceSub, Nat.reduceLeDiff, List.reduceReplicate, Option.some.injEq, exists_eq_left', true_and, and_true, Nat.zero_add, o_addI, o_addS, o_addT, o_addL, o_subI, o_mulI, o_fdivI, o_modI, o_powI, o_negI, o_eqI, o_neI, o_eqS, o_neS, o_ltI, o_gtI, o_leI, o_geI, o_ltS, o_geS, o_inS, o_notInS, o_isN, o_isNotN, o_isT, o_isNotT, o_isS, o_isNotS, o_int, o_intB, o_abs, o_str, o_lenT, o_lenL, o_lenF, o_lenS, o_ixT, o_ixL, o_ixF, ixW_0, ixW_1, ixW_2, o_isStr, o_tupL, o_tupT, o_listT, o_listL, o_listLocT, o_gcd, o_bits, o_finF, o_finT, sat_iVal, sat_iEnum, sat_iRange1, sat_iRange2, o_itT, o_itL, o_itF, o_itS, o_enT, o_rng, Int.reduceLE, Int.reduceLT, nabs, Nat.reducePow, Nat.reduceLT, Int.reduceToNat, Int.reducePow, true_and, and_true, or_true, true_or, and_self, if_true, if_false, Bool.false_eq_true, decide_true, decide_false, not_false_eq_true, List.length_map]
    exact ⟨_, _, rfl⟩
  · rintro e s ⟨rfl, m, z, rfl⟩
    simp only [sat_ok, sat_bind, sat_v, sat_c, sat_bin, sat_un, sat_test, sat_truth, sat_and, sat_or, sat_not, sat_yes, sat_andv, sat_notv, sat_chain, sat_nil, sat_cons, sat_args, sat_call, sat_callX, sat_meth, sat_one, sat_oNone, sat_oSome, sat_sl, sat_tup, sat_lst, sat_loc, ss_nil, ss_seq, ss_set, ss_expr, ss_ret, ss_retN, ss_if, ss_tg, ss_par, ss_sub, ss_for, sat_comp, setTg, setTgs, wipeP, sizeLine_eq, List.map_cons, List.map_nil, List.length_cons, List.length_nil, List.cons_append, List.nil_append, List.set_cons_zero, List.set_cons_succ, List.getElem?_cons_zero, List.getElem?_cons_succ, Nat.reduceAdd, Nat.reduceSub, Nat.reduceLeDiff, List.reduceReplicate, Option.some.injEq, exists_eq_left', true_and, and_true, Nat.zero_add, o_addI, o_addS, o_addT, o_addL, o_subI, o_mulI, o_fdivI, o_modI, o_powI, o_negI, o_eqI, o_neI, o_eqS, o_neS, o_ltI, o_gtI, o_leI, o_geI, o_ltS, o_geS, o_inS, o_notInS, o_isN, o_isNotN, o_isT, o_isNotT, o_isS, o_isNotS, o_int, o_intB, o_abs, o_str, o_lenT, o_lenL, o_lenF, o_lenS, o_ixT, o_ixL, o_ixF, ixW_0, ixW_1, ixW_2, o_isStr, o_tupL, o_tupT, o_listT, o_listL, o_listLocT, o_gcd, o_bits, o_finF, o_finT, sat_iVal, sat_iEnum, sat_iRange1, sat_iRange2, o_itT, o_itL, o_itF, o_itS, o_enT, o_rng, Int.reduceLE, Int.reduceLT, nabs, Nat.reducePow, Nat.reduceLT, Int.reduceToNat, Int.reducePow, true_and, and_true, or_true, true_or, and_self, if_true, if_false, Bool.false_eq_true, decide_true, decide_false, not_false_eq_true, List.length_map]
    exact ⟨_, rfl, 0, 0, m, by simp, by decide⟩
/-! ### names -/
theorem draw_len {P : PV → Prop} {xs : List PV} {r : Int} (h0 : 0 ≤ r) (h1 : r < xs.length) (p : ∀ y ∈ xs, P y) : ixW xs r P :=
  ixW_in h0 h1 fun y e => p y (List.mem_of_getElem? e)
theorem src_fr {st : Store} {l k : Nat} {o : PO} (h : k ≠ l) : (st.set l o)[k]? = st[k]? := List.getElem?_set_ne (Ne.symm h)
theorem set_self {st : Store} {l : Nat} {o : PO} (h : st[l]? = some o) : st.set l o = st := by
  obtain ⟨h1, h2⟩ := List.getElem?_eq_some_iff.mp h
  rw [← h2]
  exact List.set_getElem_self h1
theorem SrcAt.self {st : Store} {l : Nat} (h : SrcAt st l) : ∃ o, st = st.set l o := by
  obtain ⟨a, b, c, h, _⟩ := h
  exact ⟨_, (set_self h).symm⟩
/-- the texts in use, as a list that's read (of the store, or finished) -/
def Used (st : Store) (v : PV) (l : Nat) (n : Nat) : Prop := ∃ (us : List Str) (b : Bool), us.length ≤ n ∧ ∀ o, seqOf (st.set l o) v = some (b, us.map .str)
theorem Used.set {st : Store} {v : PV} {l n : Nat} {o : PO} (h : Used st v l n) : Used (st.set l o) v l n := by
  obtain ⟨us, b, h1, h2⟩ := h
  exact ⟨us, b, h1, fun o' => by rw [List.set_set]; exact h2 o'⟩
theorem isDs_str (us : List Str) : isDs (us.map .str) = true := by induction us <;> simp_all [isDs, isD]
theorem depth_str (us : List Str) : PyData.depthAll (toDs (us.map .str)) = 0 := by induction us <;> simp_all [toDs, toD, PyData.depthAll, PyData.depth]
theorem o_inUsed {x : Str} {st : Store} {v : PV} {b : Bool} {us : List Str} {Q : PV → Store → Prop} (h : seqOf st v = some (b, us.map .str)) : Sat (pIn (.str x) v st) Q = Q (.bl (decide (x ∈ us))) st := by
  have hv : ∀ z, v ≠ .str z := fun z e => by subst e; cases h
  have e : pIn (.str x) v st = match seqOf st v with
    | some (_, xs) => if isD (.str x) = true ∧ isDs xs = true ∧ min (PyData.depthAll (toDs xs)) (toD (.str x)).depth ≤ 60 then .ok (.bl (inD (.str x) xs)) st else .stuck
    | none => .stuck := by
    unfold pIn
    cases v with
    | str z => exact absurd rfl (hv z)
    | _ => rfl
  rw [e, h]
  show Sat (if _ then _ else _) Q = _
  rw [if_pos ⟨by simp [isD], isDs_str us, by simp [toD, PyData.depth]⟩]
  have : inD (.str x) (us.map .str) = decide (x ∈ us) := by
    unfold inD
    rw [List.any_map]
    rw [Bool.eq_iff_iff]
    simp only [List.any_eq_true, Function.comp, decide_eq_true_eq, toD, PyData.eqv, beq_iff_eq]
    constructor
    · rintro ⟨y, m, rfl⟩; exact m
    · exact fun m => ⟨x, m, rfl⟩
  rw [this, sat_ok]
theorem str_len (i : Int) (h : 0 ≤ i) (h2 : i < 1000) : (strInt i).length ≤ 3 := by
  obtain ⟨k, rfl⟩ := Int.eq_ofNat_of_zero_le h
  have hk : k < 1000 := by omega
  have : ∀ k : Fin 1000, (strInt (k.val : Int)).length ≤ 3 := by decide +kernel
  exact this ⟨k, hk⟩
theorem len_app (x y : Str) : (x ++ y).length = x.length + y.length := by
  show (Array.append _ _).size = _
  first | (simp; done) | (simp [Array.size_append]; rfl)
end PL
/-! PL, part p: drawn names. -/
namespace PL
open PySem PySem.Spec PyProof.Rows L2
theorem ixS_in {z : Str} {i : Int} {st : Store} {Q : PV → Store → Prop} (hz : z.length ≤ sizeLine) (h0 : 0 ≤ i) (h1 : i < z.length) (p : ∀ c, Q (.str ⟨#[c]⟩) st) : Sat (pIx (.str z) (.int i) st) Q := by
  obtain ⟨k, rfl⟩ := Int.eq_ofNat_of_zero_le h0
  have hk : k < z.cps.toList.length := by
    have : z.length = z.cps.size := rfl
    rw [Array.length_toList]; omega
  have e : atI z.cps.toList (k : Int) = some z.cps.toList[k] := by
    unfold atI ixN
    rw [if_pos (by omega), if_pos (by omega)]
    simp [List.getElem?_eq_getElem hk]
  show Sat (match (if z.length ≤ sizeLine then atI z.cps.toList (k : Int) else none) with | some c => .ok (.str ⟨#[c]⟩) st | none => .stuck) Q
  rw [if_pos hz, e]
  exact ⟨_, _, rfl, p _⟩
theorem len1 {c : Nat} : (⟨#[c]⟩ : Str).length = 1 := rfl
theorem lenLet : ("abcdefghijklmnopqrstuvwxyz" : Str).length = 26 := by decide +kernel
theorem lenDig : ("0123456789" : Str).length = 10 := by decide +kernel
theorem rngs_len {n : Nat} {lo : Int} : (rngs lo n).length = n := by simp [rngs]
theorem rngs_get {lo : Int} {n i : Nat} {v : PV} (h : (rngs lo n)[i]? = some v) : i < n ∧ v = .int (lo + i) := by
  unfold rngs at h
  rw [List.getElem?_map] at h
  by_cases hi : i < n
  · rw [List.getElem?_range hi] at h
    cases h
    exact ⟨hi, rfl⟩
  · rw [List.getElem?_eq_none (by simpa using hi)] at h
    cases h
theorem sl16 {n : Nat} (h : n ≤ 16777216) : n ≤ sizeLine := by rw [sizeLine_eq]; exact h
theorem log2_small {n : Nat} (h : n < 1024) : n.log2 < 1920 := by
  by_cases h0 : n = 0
  · rw [h0]; decide
  · exact Nat.lt_trans ((Nat.log2_lt h0).mpr (show n < 2 ^ 10 from h)) (by decide)
/-! the names that are tried -/
def unStr (z : Str) : Nat := z.cps.toList.foldl (fun a c => a * 10 + (c - 48)) 0
theorem unStr_ok : ∀ k : Fin 1000, unStr (strInt (k.val : Int)) = k.val ∧ 1 ≤ (strInt (k.val : Int)).length := by decide +kernel
theorem str_inj {i j : Nat} (hi : i < 1000) (hj : j < 1000) (h : strInt (i : Int) = strInt (j : Int)) : i = j := by
  have a := (unStr_ok ⟨i, hi⟩).1
  have b := (unStr_ok ⟨j, hj⟩).1
  simp only at a b
  rw [← a, ← b, h]
theorem app_list (x y : Str) : (x ++ y).cps.toList = x.cps.toList ++ y.cps.toList := by
  show (Array.append _ _).toList = _
  first | (simp; done) | exact Array.toList_append
theorem str_ext {x y : Str} (h : x.cps.toList = y.cps.toList) : x = y := by
  cases x with
  | mk a => cases y with
    | mk b =>
      have : a = b := Array.toList_inj.mp h
      rw [this]
theorem app_inj {x y z : Str} (h : x ++ y = x ++ z) : y = z := by
  refine str_ext ?_
  have := congrArg (fun s : Str => s.cps.toList) h
  simp only [app_list] at this
  exact List.append_cancel_left this
def cand (b : Str) : Nat → Str
  | 0 => b
  | k + 1 => b ++ strInt (k : Int)
theorem cand_inj {b : Str} {i j : Nat} (hi : i ≤ 1000) (hj : j ≤ 1000) (h : cand b i = cand b j) : i = j := by
  cases i with
  | zero =>
    cases j with
    | zero => rfl
    | succ j =>
      have h2 : b = b ++ strInt (j : Int) := h
      have := congrArg Str.length h2
      rw [len_app] at this
      have := (unStr_ok ⟨j, by omega⟩).2
      simp only at this
      omega
  | succ i =>
    cases j with
    | zero =>
      have h2 : b ++ strInt (i : Int) = b := h
      have := congrArg Str.length h2
      rw [len_app] at this
      have := (unStr_ok ⟨i, by omega⟩).2
      simp only at this
      omega
    | succ j =>
      have h2 : b ++ strInt (i : Int) = b ++ strInt (j : Int) := h
      rw [str_inj (by omega) (by omega) (app_inj h2)]
theorem sub_len {α : Type} [DecidableEq α] : ∀ {l m : List α}, l.Nodup → (∀ x ∈ l, x ∈ m) → l.length ≤ m.length
  | [], m, _, _ => Nat.zero_le _
  | x :: l, m, hn, hs => by
    rw [List.nodup_cons] at hn
    have hx := hs x List.mem_cons_self
    have := sub_len (l := l) (m := m.erase x) hn.2 fun y hy => (List.mem_erase_of_ne (fun e : y = x => hn.1 (by rw [← e]; exact hy))).mpr (hs y (List.mem_cons_of_mem _ hy))
    rw [List.length_erase_of_mem hx] at this
    have := List.length_pos_of_mem hx
    simp only [List.length_cons]
    omega
theorem cand_out {b : Str} {us : List Str} (hn : us.length ≤ 900) : ¬ ∀ j, j ≤ us.length → cand b j ∈ us := by
  intro h
  have nd : ((List.range (us.length + 1)).map (cand b)).Nodup := by
    rw [List.nodup_iff_pairwise_ne, List.pairwise_map]
    refine List.Pairwise.imp_of_mem ?_ (List.nodup_iff_pairwise_ne.mp (List.nodup_range (n := us.length + 1)))
    intro i j mi mj hij e
    have := List.mem_range.mp mi
    have := List.mem_range.mp mj
    exact hij (cand_inj (by omega) (by omega) e)
  have := sub_len nd fun x m => by
    obtain ⟨j, mj, rfl⟩ := List.mem_map.mp m
    exact h j (by have := List.mem_range.mp mj; omega)
  simp at this
  omega
theorem name_rest {ns : List Int} {l : Nat} {us : List Str} {used : PV} {st : Store} {w : Option PV} (hu : ∃ b, ∀ o, seqOf (st.set l o) used = some (b, us.map .str)) (hn : us.length ≤ 900) (z : Str) (o : PO) (a b : PV) (hz : z.length ≤ 3) (s5 : SrcAt (st.set l o) l) :
    Sat (pLen used (st.set l o)) fun v s => Sat (pAdd v (.int 1) s) fun v s => Sat (pRange1 [v] s) fun p s =>
        SatS (sForL (.one 6) (sIf (eTest (eBin pIn (eVar 5) (eVar 2))) (sSet 5 (eBin pAdd (eVar 7) (eArgs (one pStr) (aCons (eVar 6) aNil)))) sNil) p.ok p.xs
          [some (scr ns), some (.loc l), some used, some a, some b, some (.str z), w, some (.str z)] s)
          (fun e s => SatS (sRet (eVar 5) e s) (fun _ s => ∃ z o, PV.non = .str z ∧ z.length ≤ 6 ∧ z ∉ us ∧ s = st.set l o ∧ SrcAt s l) fun v s => ∃ z o, v = .str z ∧ z.length ≤ 6 ∧ z ∉ us ∧ s = st.set l o ∧ SrcAt s l)
          (fun v s => ∃ z o, v = .str z ∧ z.length ≤ 6 ∧ z ∉ us ∧ s = st.set l o ∧ SrcAt s l) := by
  obtain ⟨bb, hus⟩ := hu
  have e1 : pLen used (st.set l o) = .ok (.int us.length) (st.set l o) := by
    have q := hus o
    unfold pLen
    cases used with
    | str x => cases q
    | _ => simp only [q, List.length_map]
  rw [e1, sat_ok, o_addI, o_rng]
  refine ⟨by omega, ?_⟩
  refine for_invN (k := 0) (fun i e s => ∃ z' w, e = [some (scr ns), some (.loc l), some used, some a, some b, some (.str z'), w, some (.str z)] ∧ z'.length ≤ 6 ∧ s = st.set l o ∧ (z' ∉ us ∨ (z' = cand z i ∧ ∀ j, j < i → cand z j ∈ us)))
    ⟨_, _, rfl, by omega, rfl, .inr ⟨rfl, fun j hj => absurd hj (Nat.not_lt_zero _)⟩⟩ ?_ ?_
  · rintro i v e s hv ⟨z', w', rfl, hz', rfl, hc⟩
    obtain ⟨hi, rfl⟩ := rngs_get hv
    rw [Nat.zero_add] at hc ⊢
    refine ⟨_, rfl, ?_⟩
    rw [ss_if, sat_test, sat_bin, sat_var rfl, sat_var rfl, o_inUsed (hus o), sat_truth]
    by_cases hin : z' ∈ us
    · rw [decide_eq_true hin, if_pos rfl]
      have q := str_len (0 + (i : Int)) (by omega) (by omega)
      rw [ss_set, sat_bin, sat_var rfl, sat_args, sat_cons, sat_var rfl, sat_nil, sat_one, o_str, o_addS]
      refine ⟨log2_small (by omega), sl16 (by omega), _, _, rfl, by rw [len_app]; omega, rfl, .inr ⟨by rw [Int.zero_add]; rfl, fun j hj => ?_⟩⟩
      rcases hc with hc | ⟨hc1, hc2⟩
      · exact absurd hin hc
      · rcases Nat.lt_succ_iff_lt_or_eq.mp hj with z | z
        · exact hc2 j z
        · rw [z, ← hc1]; exact hin
    · rw [decide_eq_false hin, if_neg (by simp), ss_nil]
      exact ⟨_, _, rfl, hz', rfl, .inl hin⟩
  · rintro e s ⟨z', w', rfl, hz', rfl, hc⟩
    rw [ss_ret, sat_var rfl]
    refine ⟨_, _, rfl, hz', ?_, rfl, s5⟩
    rcases hc with hc | ⟨hc1, hc2⟩
    · exact hc
    · rw [rngs_len] at hc2
      exact absurd (fun j hj => hc2 j (by omega)) (cand_out (b := z) hn)
theorem name_ok {ns : List Int} {l : Nat} {us : List Str} {used : PV} {st : Store} (hs : SrcAt st l) (hu : ∃ b, ∀ o, seqOf (st.set l o) used = some (b, us.map .str)) (hn : us.length ≤ 900) :
    Sat (m_law_name [scr ns, .loc l, used] st) fun v s => ∃ z o, v = .str z ∧ z.length ≤ 6 ∧ z ∉ us ∧ s = st.set l o ∧ SrcAt s l := by
  refine sat_body ?_
  unfold f_law_name
  simp only [sat_ok, sat_bind, sat_v, sat_c, sat_bin, sat_un, sat_test, sat_truth, sat_and, sat_or, sat_not, sat_yes, sat_andv, sat_notv, sat_chain, sat_nil, sat_cons, sat_args, sat_call, sat_callX, sat_meth, sat_one, sat_oNone, sat_oSome, sat_sl, sat_tup, sat_lst, sat_loc, ss_nil, ss_seq, ss_set, ss_expr, ss_ret, ss_retN, ss_if, ss_tg, ss_par, ss_sub, ss_for, sat_comp, setTg, setTgs, wipeP, sizeLine_eq, List.map_cons, List.map_nil, List.length_cons, List.length_nil, List.cons_append, List.nil_append, List.set_cons_zero, List.set_cons_succ, List.getElem?_cons_zero, List.getElem?_cons_succ, Nat.reduceAdd, Nat.reduceSub, Nat.reduceLeDiff, List.reduceReplicate, Option.some.injEq, exists_eq_left', true_and, and_true, Nat.zero_add, o_addI, o_addS, o_addT, o_addL, o_subI, o_mulI, o_fdivI, o_modI, o_powI, o_negI, o_eqI, o_neI, o_eqS, o_neS, o_ltI, o_gtI, o_leI, o_geI, o_ltS, o_geS, o_inS, o_notInS, o_isN, o_isNotN, o_isT, o_isNotT, o_isS, o_isNotS, o_int, o_intB, o_abs, o_str, o_lenT, o_lenL, o_lenF, o_lenS, o_ixT, o_ixL, o_ixF, ixW_0, ixW_1, ixW_2, o_isStr, o_tupL, o_tupT, o_listT, o_listL, o_listLocT, o_gcd, o_bits, o_finF, o_finT, sat_iVal, sat_iEnum, sat_iRange1, sat_iRange2, o_itT, o_itL, o_itF, o_itS, o_enT, o_rng, lenLet, lenDig]
  refine (draw_ok hs (by decide) (by decide)).mono ?_
  rintro _ _ ⟨r, o1, rfl, h0, h1, rfl, s1⟩
  refine ixS_in (by rw [lenLet]; exact sl16 (by decide)) h0 (by rw [lenLet]; omega) fun c1 => ?_
  refine (draw_ok s1 (by decide) (by decide)).mono ?_
  rintro _ _ ⟨r2, o2, rfl, g0, g1, rfl, s2⟩
  simp only [sat_ok, sat_bind, sat_v, sat_c, sat_bin, sat_un, sat_test, sat_truth, sat_and, sat_or, sat_not, sat_yes, sat_andv, sat_notv, sat_chain, sat_nil, sat_cons, sat_args, sat_call, sat_callX, sat_meth, sat_one, sat_oNone, sat_oSome, sat_sl, sat_tup, sat_lst, sat_loc, ss_nil, ss_seq, ss_set, ss_expr, ss_ret, ss_retN, ss_if, ss_tg, ss_par, ss_sub, ss_for, sat_comp, setTg, setTgs, wipeP, sizeLine_eq, List.map_cons, List.map_nil, List.length_cons, List.length_nil, List.cons_append, List.nil_append, List.set_cons_zero, List.set_cons_succ, List.getElem?_cons_zero, List.getElem?_cons_succ, Nat.reduceAdd, Nat.reduceSub, Nat.reduceLeDiff, List.reduceReplicate, Option.some.injEq, exists_eq_left', true_and, and_true, Nat.zero_add, o_addI, o_addS, o_addT, o_addL, o_subI, o_mulI, o_fdivI, o_modI, o_powI, o_negI, o_eqI, o_neI, o_eqS, o_neS, o_ltI, o_gtI, o_leI, o_geI, o_ltS, o_geS, o_inS, o_notInS, o_isN, o_isNotN, o_isT, o_isNotT, o_isS, o_isNotS, o_int, o_intB, o_abs, o_str, o_lenT, o_lenL, o_lenF, o_lenS, o_ixT, o_ixL, o_ixF, ixW_0, ixW_1, ixW_2, o_isStr, o_tupL, o_tupT, o_listT, o_listL, o_listLocT, o_gcd, o_bits, o_finF, o_finT, sat_iVal, sat_iEnum, sat_iRange1, sat_iRange2, o_itT, o_itL, o_itF, o_itS, o_enT, o_rng]
  refine ⟨by omega, ?_⟩
  have lS : (("abcdefghijklmnopqrstuvwxyz" : Str) ++ ("0123456789" : Str)).length = 36 := by rw [len_app, lenLet, lenDig]
  refine for_invN (k := 0) (fun i e s => ∃ z o w, e = [some (scr ns), some (.loc l), some used, some (.str "abcdefghijklmnopqrstuvwxyz"), some (.str ("abcdefghijklmnopqrstuvwxyz" ++ "0123456789")), some (.str z), w, none] ∧ z.length ≤ 1 + i ∧ s = st.set l o ∧ SrcAt s l)
    ⟨_, o2, none, rfl, by rw [len1]; omega, by rw [List.set_set], s2⟩ ?_ ?_
  · rintro i v e s hv ⟨z, o, w, rfl, hz, rfl, s3⟩
    obtain ⟨hi, rfl⟩ := rngs_get hv
    simp only [sat_ok, sat_bind, sat_v, sat_c, sat_bin, sat_un, sat_test, sat_truth, sat_and, sat_or, sat_not, sat_yes, sat_andv, sat_notv, sat_chain, sat_nil, sat_cons, sat_args, sat_call, sat_callX, sat_meth, sat_one, sat_oNone, sat_oSome, sat_sl, sat_tup, sat_lst, sat_loc, ss_nil, ss_seq, ss_set, ss_expr, ss_ret, ss_retN, ss_if, ss_tg, ss_par, ss_sub, ss_for, sat_comp, setTg, setTgs, wipeP, sizeLine_eq, List.map_cons, List.map_nil, List.length_cons, List.length_nil, List.cons_append, List.nil_append, List.set_cons_zero, List.set_cons_succ, List.getElem?_cons_zero, List.getElem?_cons_succ, Nat.reduceAdd, Nat.reduceSub, Nat.reduceLeDiff, List.reduceReplicate, Option.some.injEq, exists_eq_left', true_and, and_true, Nat.zero_add, o_addI, o_addS, o_addT, o_addL, o_subI, o_mulI, o_fdivI, o_modI, o_powI, o_negI, o_eqI, o_neI, o_eqS, o_neS, o_ltI, o_gtI, o_leI, o_geI, o_ltS, o_geS, o_inS, o_notInS, o_isN, o_isNotN, o_isT, o_isNotT, o_isS, o_isNotS, o_int, o_intB, o_abs, o_str, o_lenT, o_lenL, o_lenF, o_lenS, o_ixT, o_ixL, o_ixF, ixW_0, ixW_1, ixW_2, o_isStr, o_tupL, o_tupT, o_listT, o_listL, o_listLocT, o_gcd, o_bits, o_finF, o_finT, sat_iVal, sat_iEnum, sat_iRange1, sat_iRange2, o_itT, o_itL, o_itF, o_itS, o_enT, o_rng]
    refine (draw_ok s3 (by decide) (by decide)).mono ?_
    rintro _ _ ⟨r3, o3, rfl, k0, k1, rfl, s4⟩
    refine ixS_in (by rw [lS]; exact sl16 (by decide)) k0 (by rw [lS]; omega) fun c => ?_
    simp only [o_addI, o_addS, o_addT, o_addL, o_subI, o_mulI, o_fdivI, o_modI, o_powI, o_negI, o_eqI, o_neI, o_eqS, o_neS, o_ltI, o_gtI, o_leI, o_geI, o_ltS, o_geS, o_inS, o_notInS, o_isN, o_isNotN, o_isT, o_isNotT, o_isS, o_isNotS, o_int, o_intB, o_abs, o_str, o_lenT, o_lenL, o_lenF, o_lenS, o_ixT, o_ixL, o_ixF, ixW_0, ixW_1, ixW_2, o_isStr, o_tupL, o_tupT, o_listT, o_listL, o_listLocT, o_gcd, o_bits, o_finF, o_finT, sat_iVal, sat_iEnum, sat_iRange1, sat_iRange2, o_itT, o_itL, o_itF, o_itS, o_enT, o_rng]
    refine ⟨by rw [len1]; exact sl16 (by omega), _, o3, _, rfl, by rw [len_app, len1]; omega, by rw [List.set_set], s4⟩
  · rintro e s ⟨z, o, w, rfl, hz, rfl, s3⟩
    rw [rngs_len] at hz
    have hz : z.length ≤ 3 := by omega
    simp only [sat_ok, sat_bind, sat_v, sat_c, sat_bin, sat_un, sat_test, sat_truth, sat_and, sat_or, sat_not, sat_yes, sat_andv, sat_notv, sat_chain, sat_nil, sat_cons, sat_args, sat_call, sat_callX, sat_meth, sat_one, sat_oNone, sat_oSome, sat_sl, sat_tup, sat_lst, sat_loc, ss_nil, ss_seq, ss_set, ss_expr, ss_ret, ss_retN, ss_if, ss_tg, ss_par, ss_sub, ss_for, sat_comp, setTg, setTgs, wipeP, sizeLine_eq, List.map_cons, List.map_nil, List.length_cons, List.length_nil, List.cons_append, List.nil_append, List.set_cons_zero, List.set_cons_succ, List.getElem?_cons_zero, List.getElem?_cons_succ, Nat.reduceAdd, Nat.reduceSub, Nat.reduceLeDiff, List.reduceReplicate, Option.some.injEq, exists_eq_left', true_and, and_true, Nat.zero_add, o_addI, o_addS, o_addT, o_addL, o_subI, o_mulI, o_fdivI, o_modI, o_powI, o_negI, o_eqI, o_neI, o_eqS, o_neS, o_ltI, o_gtI, o_leI, o_geI, o_ltS, o_geS, o_inS, o_notInS, o_isN, o_isNotN, o_isT, o_isNotT, o_isS, o_isNotS, o_int, o_intB, o_abs, o_str, o_lenT, o_lenL, o_lenF, o_lenS, o_ixT, o_ixL, o_ixF, ixW_0, ixW_1, ixW_2, o_isStr, o_tupL, o_tupT, o_listT, o_listL, o_listLocT, o_gcd, o_bits, o_finF, o_finT, sat_iVal, sat_iEnum, sat_iRange1, sat_iRange2, o_itT, o_itL, o_itF, o_itS, o_enT, o_rng]
    refine (draw_ok s3 (by decide) (by decide)).mono ?_
    rintro _ _ ⟨r3, o3, rfl, k0, k1, rfl, s4⟩
    simp only [sat_ok, sat_bind, sat_v, sat_c, sat_bin, sat_un, sat_test, sat_truth, sat_and, sat_or, sat_not, sat_yes, sat_andv, sat_notv, sat_chain, sat_nil, sat_cons, sat_args, sat_call, sat_callX, sat_meth, sat_one, sat_oNone, sat_oSome, sat_sl, sat_tup, sat_lst, sat_loc, ss_nil, ss_seq, ss_set, ss_expr, ss_ret, ss_retN, ss_if, ss_tg, ss_par, ss_sub, ss_for, sat_comp, setTg, setTgs, wipeP, sizeLine_eq, List.map_cons, List.map_nil, List.length_cons, List.length_nil, List.cons_append, List.nil_append, List.set_cons_zero, List.set_cons_succ, List.getElem?_cons_zero, List.getElem?_cons_succ, Nat.reduceAdd, Nat.reduceSub, Nat.reduceLeDiff, List.reduceReplicate, Option.some.injEq, exists_eq_left', true_and, and_true, Nat.zero_add, o_addI, o_addS, o_addT, o_addL, o_subI, o_mulI, o_fdivI, o_modI, o_powI, o_negI, o_eqI, o_neI, o_eqS, o_neS, o_ltI, o_gtI, o_leI, o_geI, o_ltS, o_geS, o_inS, o_notInS, o_isN, o_isNotN, o_isT, o_isNotT, o_isS, o_isNotS, o_int, o_intB, o_abs, o_str, o_lenT, o_lenL, o_lenF, o_lenS, o_ixT, o_ixL, o_ixF, ixW_0, ixW_1, ixW_2, o_isStr, o_tupL, o_tupT, o_listT, o_listL, o_listLocT, o_gcd, o_bits, o_finF, o_finT, sat_iVal, sat_iEnum, sat_iRange1, sat_iRange2, o_itT, o_itL, o_itF, o_itS, o_enT, o_rng]
    split
    · refine (draw_ok s4 (by decide) (by decide)).mono ?_
      rintro _ _ ⟨r4, o4, rfl, m0, m1, rfl, s5⟩
      simp only [sat_ok, sat_bind, sat_v, sat_c, sat_bin, sat_un, sat_test, sat_truth, sat_and, sat_or, sat_not, sat_yes, sat_andv, sat_notv, sat_chain, sat_nil, sat_cons, sat_args, sat_call, sat_callX, sat_meth, sat_one, sat_oNone, sat_oSome, sat_sl, sat_tup, sat_lst, sat_loc, ss_nil, ss_seq, ss_set, ss_expr, ss_ret, ss_retN, ss_if, ss_tg, ss_par, ss_sub, ss_for, sat_comp, setTg, setTgs, wipeP, sizeLine_eq, List.map_cons, List.map_nil, List.length_cons, List.length_nil, List.cons_append, List.nil_append, List.set_cons_zero, List.set_cons_succ, List.getElem?_cons_zero, List.getElem?_cons_succ, Nat.reduceAdd, Nat.reduceSub, Nat.reduceLeDiff, List.reduceReplicate, Option.some.injEq, exists_eq_left', true_and, and_true, Nat.zero_add, o_addI, o_addS, o_addT, o_addL, o_subI, o_mulI, o_fdivI, o_modI, o_powI, o_negI, o_eqI, o_neI, o_eqS, o_neS, o_ltI, o_gtI, o_leI, o_geI, o_ltS, o_geS, o_inS, o_notInS, o_isN, o_isNotN, o_isT, o_isNotT, o_isS, o_isNotS, o_int, o_intB, o_abs, o_str, o_lenT, o_lenL, o_lenF, o_lenS, o_ixT, o_ixL, o_ixF, ixW_0, ixW_1, ixW_2, o_isStr, o_tupL, o_tupT, o_listT, o_listL, o_listLocT, o_gcd, o_bits, o_finF, o_finT, sat_iVal, sat_iEnum, sat_iRange1, sat_iRange2, o_itT, o_itL, o_itF, o_itS, o_enT, o_rng]
      refine draw_len m0 (by simp only [List.length_cons, List.length_nil]; omega) fun y hy => ?_
      obtain ⟨z2, rfl, hz2⟩ : ∃ z2, y = .str z2 ∧ z2.length ≤ 3 := by
        simp only [List.mem_cons, List.not_mem_nil, or_false] at hy
        rcases hy with rfl | rfl | rfl | rfl | rfl | rfl <;> exact ⟨_, rfl, by decide +kernel⟩
      rw [List.set_set, List.set_set]
      have := name_rest (ns := ns) (w := w) hu hn z2 o4 (.str "abcdefghijklmnopqrstuvwxyz") (.str ("abcdefghijklmnopqrstuvwxyz" ++ "0123456789")) hz2 (by rw [List.set_set, List.set_set] at s5; exact s5)
      simpa only [sat_ok, sat_bind, sat_v, sat_c, sat_bin, sat_un, sat_test, sat_truth, sat_and, sat_or, sat_not, sat_yes, sat_andv, sat_notv, sat_chain, sat_nil, sat_cons, sat_args, sat_call, sat_callX, sat_meth, sat_one, sat_oNone, sat_oSome, sat_sl, sat_tup, sat_lst, sat_loc, ss_nil, ss_seq, ss_set, ss_expr, ss_ret, ss_retN, ss_if, ss_tg, ss_par, ss_sub, ss_for, sat_comp, setTg, setTgs, wipeP, sizeLine_eq, List.map_cons, List.map_nil, List.length_cons, List.length_nil, List.cons_append, List.nil_append, List.set_cons_zero, List.set_cons_succ, List.getElem?_cons_zero, List.getElem?_cons_succ, Nat.reduceAdd, Nat.reduceSub, Nat.reduceLeDiff, List.reduceReplicate, Option.some.injEq, exists_eq_left', true_and, and_true, Nat.zero_add, o_addI, o_addS, o_addT, o_addL, o_subI, o_mulI, o_fdivI, o_modI, o_powI, o_negI, o_eqI, o_neI, o_eqS, o_neS, o_ltI, o_gtI, o_leI, o_geI, o_ltS, o_geS, o_inS, o_notInS, o_isN, o_isNotN, o_isT, o_isNotT, o_isS, o_isNotS, o_int, o_intB, o_abs, o_str, o_lenT, o_lenL, o_lenF, o_lenS, o_ixT, o_ixL, o_ixF, ixW_0, ixW_1, ixW_2, o_isStr, o_tupL, o_tupT, o_listT, o_listL, o_listLocT, o_gcd, o_bits, o_finF, o_finT, sat_iVal, sat_iEnum, sat_iRange1, sat_iRange2, o_itT, o_itL, o_itF, o_itS, o_enT, o_rng] using this
    · rw [List.set_set]
      have := name_rest (ns := ns) (w := w) hu hn z o3 (.str "abcdefghijklmnopqrstuvwxyz") (.str ("abcdefghijklmnopqrstuvwxyz" ++ "0123456789")) hz (by rw [List.set_set] at s4; exact s4)
      simpa only [sat_ok, sat_bind, sat_v, sat_c, sat_bin, sat_un, sat_test, sat_truth, sat_and, sat_or, sat_not, sat_yes, sat_andv, sat_notv, sat_chain, sat_nil, sat_cons, sat_args, sat_call, sat_callX, sat_meth, sat_one, sat_oNone, sat_oSome, sat_sl, sat_tup, sat_lst, sat_loc, ss_nil, ss_seq, ss_set, ss_expr, ss_ret, ss_retN, ss_if, ss_tg, ss_par, ss_sub, ss_for, sat_comp, setTg, setTgs, wipeP, sizeLine_eq, List.map_cons, List.map_nil, List.length_cons, List.length_nil, List.cons_append, List.nil_append, List.set_cons_zero, List.set_cons_succ, List.getElem?_cons_zero, List.getElem?_cons_succ, Nat.reduceAdd, Nat.reduceSub, Nat.reduceLeDiff, List.reduceReplicate, Option.some.injEq, exists_eq_left', true_and, and_true, Nat.zero_add, o_addI, o_addS, o_addT, o_addL, o_subI, o_mulI, o_fdivI, o_modI, o_powI, o_negI, o_eqI, o_neI, o_eqS, o_neS, o_ltI, o_gtI, o_leI, o_geI, o_ltS, o_geS, o_inS, o_notInS, o_isN, o_isNotN, o_isT, o_isNotT, o_isS, o_isNotS, o_int, o_intB, o_abs, o_str, o_lenT, o_lenL, o_lenF, o_lenS, o_ixT, o_ixL, o_ixF, ixW_0, ixW_1, ixW_2, o_isStr, o_tupL, o_tupT, o_listT, o_listL, o_listLocT, o_gcd, o_bits, o_finF, o_finT, sat_iVal, sat_iEnum, sat_iRange1, sat_iRange2, o_itT, o_itL, o_itF, o_itS, o_enT, o_rng] using this
end PL
/-! PL, part q: frames; divisors. -/
namespace PL
open PySem PySem.Spec PyProof.Rows L2
/-- but the places in L all stands; the store may have grown -/
structure Gr (L : List Nat) (st s : Store) : Prop where
  len : st.length ≤ s.length
  same : ∀ k, k < st.length → k ∉ L → s[k]? = st[k]?
theorem Gr.refl {L : List Nat} {st : Store} : Gr L st st := ⟨Nat.le_refl _, fun _ _ _ => rfl⟩
theorem Gr.trans {L : List Nat} {a b c : Store} (h : Gr L a b) (g : Gr L b c) : Gr L a c := ⟨Nat.le_trans h.len g.len, fun k hk n => (g.same k (Nat.lt_of_lt_of_le hk h.len) n).trans (h.same k hk n)⟩
theorem Gr.set {L : List Nat} {st : Store} {l : Nat} {o : PO} (h : l ∈ L) : Gr L st (st.set l o) := ⟨by simp, fun k _ n => List.getElem?_set_ne (fun e : l = k => n (e ▸ h))⟩
theorem Gr.app {L : List Nat} {st r : Store} : Gr L st (st ++ r) := ⟨by simp, fun k hk _ => List.getElem?_append_left hk⟩
theorem Gr.mono {L L' : List Nat} {st s : Store} (h : Gr L st s) (i : ∀ k ∈ L, k ∈ L') : Gr L' st s := ⟨h.len, fun k hk n => h.same k hk fun m => n (i k m)⟩
/-- places that are new are no one's concern -/
theorem Gr.cut {L L' : List Nat} {st s : Store} (h : Gr L st s) (i : ∀ k ∈ L, k < st.length → k ∈ L') : Gr L' st s := ⟨h.len, fun k hk n => h.same k hk fun m => n (i k m hk)⟩
theorem SrcAt.lt {st : Store} {l : Nat} (h : SrcAt st l) : l < st.length := by
  obtain ⟨a, b, c, h, _⟩ := h
  exact (List.getElem?_eq_some_iff.mp h).1
theorem lt_of_some {st : Store} {l : Nat} {o : PO} (h : st[l]? = some o) : l < st.length := (List.getElem?_eq_some_iff.mp h).1
theorem SrcAt.gr {L : List Nat} {st s : Store} {l : Nat} (h : SrcAt st l) (g : Gr L st s) (n : l ∉ L) : SrcAt s l := by
  have hl := h.lt
  obtain ⟨a, b, c, h, h0⟩ := h
  exact ⟨a, b, c, (g.same l hl n).trans h, h0⟩
theorem Gr.at' {L : List Nat} {st s : Store} {k : Nat} {o : PO} (g : Gr L st s) (h : st[k]? = some o) (n : k ∉ L) : s[k]? = some o := (g.same k (lt_of_some h) n).trans h
theorem draw' {ns : List Int} {l : Nat} {lim : Int} {st : Store} {Q : PV → Store → Prop} (hs : SrcAt st l) (hl : 0 < lim) (hl2 : lim.natAbs.log2 < 9000)
    (k : ∀ r s, 0 ≤ r → r < lim → SrcAt s l → Gr [l] st s → Q (.int r) s) : Sat (m_law_draw [scr ns, .loc l, .int lim] st) Q := by
  refine (draw_ok hs hl hl2).mono ?_
  rintro _ _ ⟨r, o, rfl, h0, h1, rfl, s1⟩
  exact k r _ h0 h1 s1 (.set (by simp))
/-- texts that are read: finished, or at a place other than l -/
structure Use (st : Store) (v : PV) (l n : Nat) (us : List Str) : Prop where
  ex : ∃ b, seqOf st v = some (b, us.map .str)
  len : us.length ≤ n
  ne : v ≠ .loc l
theorem seqOf_gr {L : List Nat} {st s : Store} {v : PV} {q : Bool × List PV} (g : Gr L st s) (h : seqOf st v = some q) (n : ∀ k ∈ L, v ≠ .loc k) : seqOf s v = some q := by
  cases v with
  | loc k =>
    unfold seqOf at h ⊢
    simp only at h ⊢
    split at h
    · rename_i xs e
      have : s[k]? = some (.lst xs) := g.at' e fun m => n k m rfl
      simp only [this]
      exact h
    · cases h
  | _ => exact h
theorem Use.gr {L : List Nat} {st s : Store} {v : PV} {l n : Nat} {us : List Str} (u : Use st v l n us) (g : Gr L st s) (h : ∀ k ∈ L, v ≠ .loc k) : Use s v l n us :=
  ⟨let ⟨b, e⟩ := u.ex; ⟨b, seqOf_gr g e h⟩, u.len, u.ne⟩
theorem Use.nil {st : Store} {l n : Nat} : Use st (.lst []) l n [] := ⟨⟨false, rfl⟩, Nat.zero_le _, nofun⟩
theorem Use.lst {st : Store} {l n : Nat} {us : List Str} (h : us.length ≤ n) : Use st (.lst (us.map .str)) l n us := ⟨⟨false, rfl⟩, h, nofun⟩
theorem Use.at' {st : Store} {l n k : Nat} {us : List Str} (h : st[k]? = some (.lst (us.map .str))) (hn : us.length ≤ n) (ne : k ≠ l) : Use st (.loc k) l n us :=
  ⟨⟨false, by unfold seqOf; simp only [h]⟩, hn, fun e => ne (by cases e; rfl)⟩
theorem name' {ns : List Int} {l n : Nat} {used : PV} {st : Store} {us : List Str} {Q : PV → Store → Prop} (hs : SrcAt st l) (hu : Use st used l n us) (hn : n ≤ 900)
    (k : ∀ z s, z.length ≤ 6 → z ∉ us → SrcAt s l → Gr [l] st s → Q (.str z) s) : Sat (m_law_name [scr ns, .loc l, used] st) Q := by
  obtain ⟨⟨b, e⟩, h2, h3⟩ := hu
  refine (name_ok hs (us := us) ⟨b, fun o => seqOf_gr (L := [l]) (.set (by simp)) e (by simpa using h3)⟩ (by omega)).mono ?_
  rintro _ _ ⟨z, o, rfl, h, hu2, rfl, s1⟩
  exact k z _ h hu2 s1 (.set (by simp))
/-! ### the greatest common divisor, by turns -/
theorem gcd_turns {a b g : Nat} (hg : Nat.gcd a b = g) (i : Nat) (B n : Nat) (hB : B < 2 ^ n) :
    (i % 2 = 0 → b * 2 ^ (i / 2) ≤ B → b ≠ 0 → b * 2 ^ (i / 2) ≤ B ∧ a % b < b ∧ Nat.gcd b (a % b) = g) ∧
    (i % 2 = 1 → a * 2 ^ (i / 2) ≤ B → b < a → b ≠ 0 → (a % b) * 2 ^ (i / 2 + 1) ≤ B ∧ Nat.gcd b (a % b) = g) := by
  refine ⟨fun _ h1 h2 => ⟨h1, Nat.mod_lt _ (Nat.pos_of_ne_zero h2), ?_⟩, fun _ h1 h2 h3 => ⟨?_, ?_⟩⟩
  · rw [Nat.gcd_comm, ← Nat.gcd_rec, Nat.gcd_comm]; exact hg
  · have h4 : 2 * (a % b) ≤ a := by
      have := Nat.mod_add_div a b
      have h5 : a % b < b := Nat.mod_lt _ (Nat.pos_of_ne_zero h3)
      have h6 : 1 ≤ a / b := (Nat.one_le_div_iff (Nat.pos_of_ne_zero h3)).mpr (Nat.le_of_lt h2)
      have h7 : b * 1 ≤ b * (a / b) := Nat.mul_le_mul_left _ h6
      omega
    calc (a % b) * 2 ^ (i / 2 + 1) = (2 * (a % b)) * 2 ^ (i / 2) := by rw [Nat.pow_succ]; ac_rfl
      _ ≤ a * 2 ^ (i / 2) := Nat.mul_le_mul_right _ h4
      _ ≤ B := h1
  · rw [Nat.gcd_comm, ← Nat.gcd_rec, Nat.gcd_comm]; exact hg
theorem imod_nat (a b : Nat) : ((a : Int) % (b : Int)) = ((a % b : Nat) : Int) := rfl
theorem bits_lt (b : Nat) : b < 2 ^ (Builtin.Int.intBits (b : Int)) := by
  unfold Builtin.Int.intBits
  by_cases h : b = 0
  · subst h; decide
  · have : ((b : Int) == 0) = false := by simpa using h
    rw [this]
    show b < 2 ^ (((b : Int).natAbs).log2 + 1)
    rw [Int.natAbs_natCast]
    exact (Nat.log2_lt h).mp (Nat.lt_succ_self _)
theorem gcd_ok {a b : Nat} {st : Store} (hb : Builtin.Int.intBits (b : Int) < 1000000) : Sat (m_law_gcd [.int a, .int b] st) fun v s => v = .int (Nat.gcd a b) ∧ s = st := by
  refine sat_body ?_
  unfold f_law_gcd
  simp only [sat_ok, sat_bind, sat_v, sat_c, sat_bin, sat_un, sat_test, sat_truth, sat_and, sat_or, sat_not, sat_yes, sat_andv, sat_notv, sat_chain, sat_nil, sat_cons, sat_args, sat_call, sat_callX, sat_meth, sat_one, sat_oNone, sat_oSome, sat_sl, sat_tup, sat_lst, sat_loc, ss_nil, ss_seq, ss_set, ss_expr, ss_ret, ss_retN, ss_if, ss_tg, ss_par, ss_sub, ss_for, sat_comp, setTg, setTgs, wipeP, sizeLine_eq, List.map_cons, List.map_nil, List.length_cons, List.length_nil, List.cons_append, List.nil_append, List.set_cons_zero, List.set_cons_succ, List.getElem?_cons_zero, List.getElem?_cons_succ, Nat.reduceAdd, Nat.reduceSub, Nat.reduceLeDiff, List.reduceReplicate, Option.some.injEq, exists_eq_left', true_and, and_true, Nat.zero_add, o_addI, o_addS, o_addT, o_addL, o_subI, o_mulI, o_fdivI, o_modI, o_powI, o_negI, o_eqI, o_neI, o_eqS, o_neS, o_ltI, o_gtI, o_leI, o_geI, o_ltS, o_geS, o_inS, o_notInS, o_isN, o_isNotN, o_isT, o_isNotT, o_isS, o_isNotS, o_int, o_intB, o_abs, o_str, o_lenT, o_lenL, o_lenF, o_lenS, o_ixT, o_ixL, o_ixF, ixW_0, ixW_1, ixW_2, o_isStr, o_tupL, o_tupT, o_listT, o_listL, o_listLocT, o_gcd, o_bits, o_finF, o_finT, sat_iVal, sat_iEnum, sat_iRange1, sat_iRange2, o_itT, o_itL, o_itF, o_itS, o_enT, o_rng]
  have hlt := bits_lt b
  generalize hn : Builtin.Int.intBits (b : Int) = n at hlt hb ⊢
  refine ⟨.inl (.inl (by decide)), ⟨by omega, by omega⟩, ?_⟩
  refine for_invN (k := 0) (fun i e s => s = st ∧ ∃ (x y : Nat) (w : Option PV), e = [some (.int x), some (.int y), w] ∧ Nat.gcd x y = Nat.gcd a b ∧ (i % 2 = 0 → y * 2 ^ (i / 2) ≤ b) ∧ (i % 2 = 1 → x * 2 ^ (i / 2) ≤ b ∧ y < x))
    ⟨rfl, a, b, _, rfl, rfl, fun _ => by simp, fun h => by simp at h⟩ ?_ ?_
  · rintro i v e s hv ⟨rfl, x, y, w, rfl, hg, h0, h1⟩
    obtain ⟨hi, rfl⟩ := rngs_get hv
    refine ⟨_, rfl, ?_⟩
    rw [ss_seq, ss_if, sat_test, sat_bin, sat_var rfl, sat_c, o_eqI, sat_truth]
    by_cases hy : y = 0
    · subst hy
      rw [if_pos (by simp), ss_ret, sat_var rfl]
      rw [Nat.gcd_zero_right] at hg
      exact ⟨by rw [hg], rfl⟩
    · rw [if_neg (by simp; omega), ss_nil, ss_par, sat_cons, sat_var rfl, sat_cons, sat_bin, sat_args, sat_cons, sat_var rfl, sat_nil, sat_one, o_int, sat_var rfl, o_modI]
      refine ⟨by omega, ?_⟩
      rw [sat_nil]
      have T := gcd_turns hg (0 + i) b n hlt
      refine ⟨rfl, y, x % y, _, rfl, ?_, ?_, ?_⟩
      · rw [Nat.gcd_comm, ← Nat.gcd_rec, Nat.gcd_comm]; exact hg
      · intro hp
        have hp' : (0 + i) % 2 = 1 := by omega
        have e : (0 + i + 1) / 2 = (0 + i) / 2 + 1 := by omega
        rw [e]
        exact (T.2 hp' (h1 hp').1 (h1 hp').2 hy).1
      · intro hp
        have hp' : (0 + i) % 2 = 0 := by omega
        have e : (0 + i + 1) / 2 = (0 + i) / 2 := by omega
        rw [e]
        have := T.1 hp' (h0 hp') hy
        exact ⟨this.1, this.2.1⟩
  · rintro e s ⟨rfl, x, y, w, rfl, hg, h0, h1⟩
    rw [rngs_len] at h0
    have e1 : (0 + ((2 : Int) * (n : Int) + 2).toNat) = 2 * n + 2 := by omega
    rw [e1] at h0
    have h2 := h0 (by omega)
    have e2 : (2 * n + 2) / 2 = n + 1 := by omega
    rw [e2] at h2
    have hy : y = 0 := by
      rcases Nat.eq_zero_or_pos y with z | z
      · exact z
      · have : 1 * 2 ^ (n + 1) ≤ y * 2 ^ (n + 1) := Nat.mul_le_mul_right _ z
        rw [Nat.pow_succ] at this h2
        omega
    subst hy
    rw [Nat.gcd_zero_right] at hg
    exact ⟨by rw [hg], rfl⟩
end PL
/-! PL, part r: rows made by the draws. -/
namespace PL
open PySem PySem.Spec PyProof.Rows L2
abbrev ints' (ws : List Int) : List PV := ws.map .int
/-- weights of moderate size -/
def Mod1 (w : Int) : Prop := 1 ≤ w ∧ w.natAbs < 2 ^ 200
theorem Mod1.bits {w : Nat} (h : w < 2 ^ 200) : Builtin.Int.intBits (w : Int) < 1000000 := by
  unfold Builtin.Int.intBits
  by_cases h0 : w = 0
  · subst h0; decide
  · have : ((w : Int) == 0) = false := by simpa using h0
    rw [this]
    show ((w : Int).natAbs).log2 + 1 < 1000000
    rw [Int.natAbs_natCast]
    have := (Nat.log2_lt h0).mpr h
    omega
/-- the greatest common divisor of a row, as both read it -/
def gcds (ws : List Int) : Nat := ws.foldl (fun c w => Nat.gcd c w.natAbs) 0
theorem gcds_fold : ∀ (ws : List Int) (c : Nat), ws.foldl (fun c w => Nat.gcd c w.natAbs) c = Nat.gcd c (gcds ws)
  | [], c => by simp [gcds]
  | w :: ws, c => by
    rw [List.foldl_cons, gcds_fold ws]
    have : gcds (w :: ws) = Nat.gcd w.natAbs (gcds ws) := by
      unfold gcds
      rw [List.foldl_cons, gcds_fold ws, Nat.gcd_zero_left]
      rfl
    rw [this, Nat.gcd_assoc]
theorem gcds_cons (w : Int) (ws : List Int) : gcds (w :: ws) = Nat.gcd w.natAbs (gcds ws) := by
  show (w :: ws).foldl _ 0 = _
  rw [List.foldl_cons, gcds_fold, Nat.gcd_zero_left]
theorem gcds_dvd : ∀ {ws : List Int} {w : Int}, w ∈ ws → gcds ws ∣ w.natAbs
  | v :: ws, w, m => by
    rw [gcds_cons]
    rcases List.mem_cons.mp m with rfl | m
    · exact Nat.gcd_dvd_left ..
    · exact Nat.dvd_trans (Nat.gcd_dvd_right ..) (gcds_dvd m)
theorem gcds_pos {ws : List Int} (h : ∃ w ∈ ws, w ≠ 0) : 0 < gcds ws := by
  obtain ⟨w, m, h⟩ := h
  rcases Nat.eq_zero_or_pos (gcds ws) with z | z
  · have := gcds_dvd m
    rw [z] at this
    have := Nat.eq_zero_of_zero_dvd this
    omega
  · exact z
/-- what may be walked: a finished list or a place -/
def Walks (st : Store) (v : PV) (xs : List PV) : Prop := (v = .tup xs ∨ v = .lst xs ∨ v = .frz xs) ∨ ∃ l, v = .loc l ∧ st[l]? = some (.lst xs)
theorem Walks.iter {st : Store} {v : PV} {xs : List PV} (h : Walks st v xs) : ∃ p : Itms, pIter v st = .ok p st ∧ p.xs = xs ∧ p.ok st := by
  rcases h with (rfl | rfl | rfl) | ⟨l, rfl, h⟩
  · exact ⟨_, rfl, rfl, True.intro⟩
  · exact ⟨_, rfl, rfl, True.intro⟩
  · exact ⟨_, rfl, rfl, True.intro⟩
  · refine ⟨⟨xs, some (l, xs)⟩, ?_, rfl, h⟩
    unfold pIter
    simp only
    rw [h]
theorem Walks.seq {st : Store} {v : PV} {xs : List PV} (h : Walks st v xs) : ∃ b, seqOf st v = some (b, xs) := by
  rcases h with (rfl | rfl | rfl) | ⟨l, rfl, h⟩
  · exact ⟨_, rfl⟩
  · exact ⟨_, rfl⟩
  · exact ⟨_, rfl⟩
  · exact ⟨false, by unfold seqOf; simp only [h]⟩
theorem Walks.tup {st : Store} {v : PV} {xs : List PV} {Q : PV → Store → Prop} (h : Walks st v xs) : Sat (pTuple v st) Q = Q (.tup xs) st := by
  obtain ⟨b, e⟩ := h.seq
  unfold pTuple
  rw [e]
  exact sat_ok
/-- for w in v: c = gcd(c, w), by the law's own divisor -/
theorem reduced_ok {st : Store} {v : PV} {ws : List Int} {Q : PV → Store → Prop} (hw : Walks st v (ints' ws)) (h1 : ∀ w ∈ ws, Mod1 w) (hn : ws.length ≤ 1000)
    (k : gcds ws = 0 ∨ 0 < gcds ws → Q (.tup (ints' (if gcds ws = 0 then ws else ws.map fun w => w / (gcds ws : Int)))) st) : Sat (m_law_reduced [v] st) Q := by
  refine sat_body ?_
  unfold f_law_reduced
  obtain ⟨p, hp, hx, hk⟩ := hw.iter
  simp only [sat_ok, sat_bind, sat_v, sat_c, sat_bin, sat_un, sat_test, sat_truth, sat_and, sat_or, sat_not, sat_yes, sat_andv, sat_notv, sat_chain, sat_nil, sat_cons, sat_args, sat_call, sat_callX, sat_meth, sat_one, sat_oNone, sat_oSome, sat_sl, sat_tup, sat_lst, sat_loc, ss_nil, ss_seq, ss_set, ss_expr, ss_ret, ss_retN, ss_if, ss_tg, ss_par, ss_sub, ss_for, sat_comp, setTg, setTgs, wipeP, sizeLine_eq, List.map_cons, List.map_nil, List.length_cons, List.length_nil, List.cons_append, List.nil_append, List.set_cons_zero, List.set_cons_succ, List.getElem?_cons_zero, List.getElem?_cons_succ, Nat.reduceAdd, Nat.reduceSub, Nat.reduceLeDiff, List.reduceReplicate, Option.some.injEq, exists_eq_left', true_and, and_true, Nat.zero_add, o_addI, o_addS, o_addT, o_addL, o_subI, o_mulI, o_fdivI, o_modI, o_powI, o_negI, o_eqI, o_neI, o_eqS, o_neS, o_ltI, o_gtI, o_leI, o_geI, o_ltS, o_geS, o_inS, o_notInS, o_isN, o_isNotN, o_isT, o_isNotT, o_isS, o_isNotS, o_int, o_intB, o_abs, o_str, o_lenT, o_lenL, o_lenF, o_lenS, o_ixT, o_ixL, o_ixF, ixW_0, ixW_1, ixW_2, o_isStr, o_tupL, o_tupT, o_listT, o_listL, o_listLocT, o_gcd, o_bits, o_finF, o_finT, sat_iVal, sat_iEnum, sat_iRange1, sat_iRange2, o_itT, o_itL, o_itF, o_itS, o_enT, o_rng, hp, hx]
  refine for_invN (k := 0) (fun i e s => s = st ∧ ∃ w, e = [some v, some (.int ((gcds (ws.take i) : Nat) : Int)), w]) ⟨rfl, none, rfl⟩ ?_ ?_ (fun i e s h => by rw [h.1]; exact hk)
  · rintro i x e s hv ⟨rfl, w, rfl⟩
    obtain ⟨z, hz, rfl⟩ : ∃ z, ws[i]? = some z ∧ x = .int z := by
      rw [List.getElem?_map] at hv
      cases e : ws[i]? with
      | none => rw [e] at hv; cases hv
      | some z => rw [e] at hv; cases hv; exact ⟨z, rfl, rfl⟩
    have hm := h1 z (List.mem_of_getElem? hz)
    obtain ⟨z, rfl⟩ := Int.eq_ofNat_of_zero_le (show 0 ≤ z by have := hm.1; omega)
    simp only [sat_ok, sat_bind, sat_v, sat_c, sat_bin, sat_un, sat_test, sat_truth, sat_and, sat_or, sat_not, sat_yes, sat_andv, sat_notv, sat_chain, sat_nil, sat_cons, sat_args, sat_call, sat_callX, sat_meth, sat_one, sat_oNone, sat_oSome, sat_sl, sat_tup, sat_lst, sat_loc, ss_nil, ss_seq, ss_set, ss_expr, ss_ret, ss_retN, ss_if, ss_tg, ss_par, ss_sub, ss_for, sat_comp, setTg, setTgs, wipeP, sizeLine_eq, List.map_cons, List.map_nil, List.length_cons, List.length_nil, List.cons_append, List.nil_append, List.set_cons_zero, List.set_cons_succ, List.getElem?_cons_zero, List.getElem?_cons_succ, Nat.reduceAdd, Nat.reduceSub, Nat.reduceLeDiff, List.reduceReplicate, Option.some.injEq, exists_eq_left', true_and, and_true, Nat.zero_add, o_addI, o_addS, o_addT, o_addL, o_subI, o_mulI, o_fdivI, o_modI, o_powI, o_negI, o_eqI, o_neI, o_eqS, o_neS, o_ltI, o_gtI, o_leI, o_geI, o_ltS, o_geS, o_inS, o_notInS, o_isN, o_isNotN, o_isT, o_isNotT, o_isS, o_isNotS, o_int, o_intB, o_abs, o_str, o_lenT, o_lenL, o_lenF, o_lenS, o_ixT, o_ixL, o_ixF, ixW_0, ixW_1, ixW_2, o_isStr, o_tupL, o_tupT, o_listT, o_listL, o_listLocT, o_gcd, o_bits, o_finF, o_finT, sat_iVal, sat_iEnum, sat_iRange1, sat_iRange2, o_itT, o_itL, o_itF, o_itS, o_enT, o_rng]
    have hb : gcds (ws.take i) < 2 ^ 200 := by
      rcases Nat.eq_zero_or_pos (gcds (ws.take i)) with q | q
      · rw [q]; exact Nat.two_pow_pos _
      · cases hi : ws.take i with
        | nil => rw [hi] at q; exact absurd q (by decide)
        | cons y ys =>
          have my : y ∈ ws := List.mem_of_mem_take (i := i) (by rw [hi]; exact List.mem_cons_self)
          have := Nat.le_of_dvd (show 0 < y.natAbs by have := (h1 y my).1; omega) (gcds_dvd (ws := y :: ys) List.mem_cons_self)
          exact Nat.lt_of_le_of_lt this (h1 y my).2
    refine (gcd_ok (Mod1.bits hb)).mono ?_
    rintro _ _ ⟨rfl, rfl⟩
    refine ⟨rfl, some (.int z), ?_⟩
    have : gcds (ws.take (i + 1)) = Nat.gcd z (gcds (ws.take i)) := by
      have e1 : ws.take (i + 1) = ws.take i ++ [(z : Int)] := by
        rw [List.take_add_one, hz]; rfl
      rw [e1]
      show (ws.take i ++ [(z : Int)]).foldl _ 0 = _
      rw [List.foldl_append]
      show Nat.gcd (gcds (ws.take i)) (z : Int).natAbs = _
      rw [Int.natAbs_natCast, Nat.gcd_comm]
    rw [this]
  · rintro e s ⟨rfl, w, rfl⟩
    have e1 : ws.take (0 + (ints' ws).length) = ws := by simp
    rw [e1]
    simp only [sat_ok, sat_bind, sat_v, sat_c, sat_bin, sat_un, sat_test, sat_truth, sat_and, sat_or, sat_not, sat_yes, sat_andv, sat_notv, sat_chain, sat_nil, sat_cons, sat_args, sat_call, sat_callX, sat_meth, sat_one, sat_oNone, sat_oSome, sat_sl, sat_tup, sat_lst, sat_loc, ss_nil, ss_seq, ss_set, ss_expr, ss_ret, ss_retN, ss_if, ss_tg, ss_par, ss_sub, ss_for, sat_comp, setTg, setTgs, wipeP, sizeLine_eq, List.map_cons, List.map_nil, List.length_cons, List.length_nil, List.cons_append, List.nil_append, List.set_cons_zero, List.set_cons_succ, List.getElem?_cons_zero, List.getElem?_cons_succ, Nat.reduceAdd, Nat.reduceSub, Nat.reduceLeDiff, List.reduceReplicate, Option.some.injEq, exists_eq_left', true_and, and_true, Nat.zero_add, o_addI, o_addS, o_addT, o_addL, o_subI, o_mulI, o_fdivI, o_modI, o_powI, o_negI, o_eqI, o_neI, o_eqS, o_neS, o_ltI, o_gtI, o_leI, o_geI, o_ltS, o_geS, o_inS, o_notInS, o_isN, o_isNotN, o_isT, o_isNotT, o_isS, o_isNotS, o_int, o_intB, o_abs, o_str, o_lenT, o_lenL, o_lenF, o_lenS, o_ixT, o_ixL, o_ixF, ixW_0, ixW_1, ixW_2, o_isStr, o_tupL, o_tupT, o_listT, o_listL, o_listLocT, o_gcd, o_bits, o_finF, o_finT, sat_iVal, sat_iEnum, sat_iRange1, sat_iRange2, o_itT, o_itL, o_itF, o_itS, o_enT, o_rng]
    by_cases h0 : gcds ws = 0
    · rw [if_pos (by simp [h0]), hw.tup]
      have := k (.inl h0)
      rw [if_pos h0] at this
      exact this
    · rw [if_neg (by simpa using h0)]
      have hpos : 0 < gcds ws := Nat.pos_of_ne_zero h0
      simp only [hp, hx, sat_ok]
      refine comp_inv (fun i acc t => t = s ∧ acc = ints' ((ws.take i).map fun w => w / (gcds ws : Int))) (k := 0) ⟨rfl, rfl⟩ ?_ ?_ (fun i a s h => by rw [h.1]; exact hk)
      · rintro i x t acc hv ⟨rfl, rfl⟩
        obtain ⟨z, hz, rfl⟩ : ∃ z, ws[i]? = some z ∧ x = .int z := by
          rw [List.getElem?_map] at hv
          cases e : ws[i]? with
          | none => rw [e] at hv; cases hv
          | some z => rw [e] at hv; cases hv; exact ⟨z, rfl, rfl⟩
        have hm := h1 z (List.mem_of_getElem? hz)
        simp only [sat_ok, sat_bind, sat_v, sat_c, sat_bin, sat_un, sat_test, sat_truth, sat_and, sat_or, sat_not, sat_yes, sat_andv, sat_notv, sat_chain, sat_nil, sat_cons, sat_args, sat_call, sat_callX, sat_meth, sat_one, sat_oNone, sat_oSome, sat_sl, sat_tup, sat_lst, sat_loc, ss_nil, ss_seq, ss_set, ss_expr, ss_ret, ss_retN, ss_if, ss_tg, ss_par, ss_sub, ss_for, sat_comp, setTg, setTgs, wipeP, sizeLine_eq, List.map_cons, List.map_nil, List.length_cons, List.length_nil, List.cons_append, List.nil_append, List.set_cons_zero, List.set_cons_succ, List.getElem?_cons_zero, List.getElem?_cons_succ, Nat.reduceAdd, Nat.reduceSub, Nat.reduceLeDiff, List.reduceReplicate, Option.some.injEq, exists_eq_left', true_and, and_true, Nat.zero_add, o_addI, o_addS, o_addT, o_addL, o_subI, o_mulI, o_fdivI, o_modI, o_powI, o_negI, o_eqI, o_neI, o_eqS, o_neS, o_ltI, o_gtI, o_leI, o_geI, o_ltS, o_geS, o_inS, o_notInS, o_isN, o_isNotN, o_isT, o_isNotT, o_isS, o_isNotS, o_int, o_intB, o_abs, o_str, o_lenT, o_lenL, o_lenF, o_lenS, o_ixT, o_ixL, o_ixF, ixW_0, ixW_1, ixW_2, o_isStr, o_tupL, o_tupT, o_listT, o_listL, o_listLocT, o_gcd, o_bits, o_finF, o_finT, sat_iVal, sat_iEnum, sat_iRange1, sat_iRange2, o_itT, o_itL, o_itF, o_itS, o_enT, o_rng, if_true]
        have hle : gcds ws ≤ z.natAbs := Nat.le_of_dvd (by have := hm.1; omega) (gcds_dvd (List.mem_of_getElem? hz))
        refine ⟨⟨by omega, ?_⟩, ?_, ?_⟩
        · rw [Int.natAbs_natCast]
          have := (Nat.log2_lt h0).mpr (Nat.lt_of_le_of_lt hle hm.2)
          omega
        · have : (ints' ((ws.take i).map fun w => w / (gcds ws : Int))).length ≤ 1000 := by simp; omega
          omega
        · have e1 : ws.take (i + 1) = ws.take i ++ [z] := by
            rw [List.take_add_one, hz]; rfl
          rw [e1]
          simp
      · rintro acc t ⟨rfl, rfl⟩
        have e1 : ws.take (0 + (ints' ws).length) = ws := by simp
        rw [e1]
        have := k (.inr hpos)
        rw [if_neg h0] at this
        simpa only [sat_ok, sat_bind, sat_v, sat_c, sat_bin, sat_un, sat_test, sat_truth, sat_and, sat_or, sat_not, sat_yes, sat_andv, sat_notv, sat_chain, sat_nil, sat_cons, sat_args, sat_call, sat_callX, sat_meth, sat_one, sat_oNone, sat_oSome, sat_sl, sat_tup, sat_lst, sat_loc, ss_nil, ss_seq, ss_set, ss_expr, ss_ret, ss_retN, ss_if, ss_tg, ss_par, ss_sub, ss_for, sat_comp, setTg, setTgs, wipeP, sizeLine_eq, List.map_cons, List.map_nil, List.length_cons, List.length_nil, List.cons_append, List.nil_append, List.set_cons_zero, List.set_cons_succ, List.getElem?_cons_zero, List.getElem?_cons_succ, Nat.reduceAdd, Nat.reduceSub, Nat.reduceLeDiff, List.reduceReplicate, Option.some.injEq, exists_eq_left', true_and, and_true, Nat.zero_add, o_addI, o_addS, o_addT, o_addL, o_subI, o_mulI, o_fdivI, o_modI, o_powI, o_negI, o_eqI, o_neI, o_eqS, o_neS, o_ltI, o_gtI, o_leI, o_geI, o_ltS, o_geS, o_inS, o_notInS, o_isN, o_isNotN, o_isT, o_isNotT, o_isS, o_isNotS, o_int, o_intB, o_abs, o_str, o_lenT, o_lenL, o_lenF, o_lenS, o_ixT, o_ixL, o_ixF, ixW_0, ixW_1, ixW_2, o_isStr, o_tupL, o_tupT, o_listT, o_listL, o_listLocT, o_gcd, o_bits, o_finF, o_finT, sat_iVal, sat_iEnum, sat_iRange1, sat_iRange2, o_itT, o_itL, o_itF, o_itS, o_enT, o_rng] using this
end PL
/-! PL, part s: the sets of a drawn game. -/
namespace PL
open PySem PySem.Spec PyProof.Rows L2
/-- a row as it is drawn -/
def GRow (v : PV) : Prop := ∃ (name : Str) (owner : Int) (ws : List Int), v = .tup [.str name, .int owner, .tup (ints' ws)] ∧ name.length ≤ 40 ∧ 1 ≤ ws.length ∧ ws.length ≤ 64 ∧ ∀ w ∈ ws, Mod1 w
theorem isDs_ints (ws : List Int) : isDs (ints' ws) = true := by induction ws <;> simp_all [isDs, isD, ints']
theorem toDs_ints (ws : List Int) : toDs (ints' ws) = ws.map .int := by induction ws <;> simp_all [toDs, toD, ints']
theorem alikeI : ∀ (a b : List Int), PySem.W.alikeAll (a.map PyData.int) (b.map PyData.int) = true
  | [], _ => by simp [PySem.W.alikeAll]
  | _ :: _, [] => by simp [PySem.W.alikeAll]
  | x :: xs, y :: ys => by simp [PySem.W.alikeAll, PySem.W.alike, alikeI xs ys]
theorem depth_ints (ws : List Int) : PyData.depthAll (ws.map PyData.int) = 0 := by induction ws <;> simp_all [PyData.depthAll, PyData.depth]
theorem GRow.toD {v : PV} (h : GRow v) : ∃ (n : Str) (o : Int) (ws : List Int), PL.toD v = .tuple [.str n, .int o, .tuple (ws.map .int)] ∧ isD v = true := by
  obtain ⟨n, o, ws, rfl, _⟩ := h
  exact ⟨n, o, ws, by simp [PL.toD, toDs, toDs_ints], by simp [isD, isDs, isDs_ints]⟩
theorem grow_sort {xs : List PV} (h : ∀ v ∈ xs, GRow v) : SortOk xs := by
  refine ⟨?_, ?_, .inl ?_, ?_⟩
  · induction xs with
    | nil => rfl
    | cons v xs ih =>
      obtain ⟨_, _, _, _, d⟩ := (h v List.mem_cons_self).toD
      simp [isDs, d, ih fun v m => h v (List.mem_cons_of_mem _ m)]
  · intro d hd e he
    rw [toDs_map, List.mem_map] at hd he
    obtain ⟨v, mv, rfl⟩ := hd
    obtain ⟨u, mu, rfl⟩ := he
    obtain ⟨n, o, ws, e1, _⟩ := (h v mv).toD
    obtain ⟨n', o', ws', e2, _⟩ := (h u mu).toD
    rw [e1, e2]
    simp only [PySem.W.alike, PySem.W.alikeAll, alikeI, Bool.and_self, Bool.true_and, Bool.and_true]
  · intro d hd
    rw [toDs_map, List.mem_map] at hd
    obtain ⟨v, mv, rfl⟩ := hd
    obtain ⟨n, o, ws, e1, _⟩ := (h v mv).toD
    exact ⟨_, _, e1⟩
  · intro d hd
    rw [toDs_map, List.mem_map] at hd
    obtain ⟨v, mv, rfl⟩ := hd
    obtain ⟨n, o, ws, e1, _⟩ := (h v mv).toD
    rw [e1]
    simp [PyData.depth, PyData.depthAll, depth_ints]
theorem sorted_ok {st : Store} {v : PV} {b : Bool} {xs : List PV} {Q : PV → Store → Prop} (hv : seqOf st v = some (b, xs)) (hn : xs.length ≤ 1000000) (h : ∀ v ∈ xs, GRow v)
    (k : Q (.lst (xs.mergeSort (PySem.W.dataLe false toD))) st) : Sat (pSortedA v st) Q := by
  unfold pSortedA
  rw [hv]
  simp only
  rw [if_pos ⟨grow_sort h, hn⟩, sat_ok]
  exact k
/-- a comprehension over a range -/
theorem comp_rng {i : Nat} {elt : EM} {env : PEnv} {n : Nat} {st : Store} {Q : List PV → Store → Prop} (E : PV → Prop) (I : Store → Prop) (hi : i < env.length) (hn : n ≤ 10000) (h0 : I st)
    (hs : ∀ (j : Nat) t, I t → Sat (elt (env.set i (some (.int (0 + (j : Int))))) t) fun y t' => E y ∧ I t') (hd : ∀ ys t, ys.length = n → (∀ y ∈ ys, E y) → I t → Q ys t) :
    Sat (compL (.one i) tYesM elt (Itms.ok ⟨rngs 0 n, none⟩) (rngs 0 n) env st []) Q := by
  refine comp_inv (fun j acc t => acc.length = j ∧ (∀ y ∈ acc, E y) ∧ I t) (k := 0) ⟨rfl, nofun, h0⟩ ?_ ?_
  · rintro j v t acc hv ⟨hl, hE, hI⟩
    obtain ⟨hj, rfl⟩ := rngs_get hv
    refine ⟨_, rfl, ?_⟩
    rw [sat_yes, if_pos rfl]
    refine (hs j t hI).mono ?_
    rintro y t' ⟨hy, ht⟩
    refine ⟨by rw [sizeLine_eq]; omega, by simp [hl], fun z hz => ?_, ht⟩
    rcases List.mem_append.mp hz with m | m
    · exact hE z m
    · rw [List.mem_singleton.mp m]; exact hy
  · rintro acc t ⟨hl, hE, hI⟩
    rw [rngs_len] at hl
    exact hd acc t (by omega) hE hI
theorem ints_of {ys : List PV} {P : Int → Prop} (h : ∀ y ∈ ys, ∃ w, y = .int w ∧ P w) : ∃ ws : List Int, ys = ints' ws ∧ ∀ w ∈ ws, P w := by
  induction ys with
  | nil => exact ⟨[], rfl, nofun⟩
  | cons y ys ih =>
    obtain ⟨w, rfl, hw⟩ := h y List.mem_cons_self
    obtain ⟨ws, rfl, hws⟩ := ih fun z m => h z (List.mem_cons_of_mem _ m)
    refine ⟨w :: ws, rfl, fun z m => ?_⟩
    rcases List.mem_cons.mp m with rfl | m
    · exact hw
    · exact hws z m
/-- the reduced row is moderate -/
theorem red_mod {ws : List Int} (h : ∀ w ∈ ws, Mod1 w) : ∀ w ∈ (if gcds ws = 0 then ws else ws.map fun w => w / (gcds ws : Int)), Mod1 w := by
  by_cases h0 : gcds ws = 0
  · rw [if_pos h0]; exact h
  · rw [if_neg h0]
    intro w m
    obtain ⟨z, mz, rfl⟩ := List.mem_map.mp m
    have hz := h z mz
    obtain ⟨k, rfl⟩ := Int.eq_ofNat_of_zero_le (show 0 ≤ z by have := hz.1; omega)
    have hd : gcds ws ∣ k := by have := gcds_dvd mz; rwa [Int.natAbs_natCast] at this
    have hk : 0 < k := by have := hz.1; omega
    have hb := hz.2
    rw [Int.natAbs_natCast] at hb
    have e : ((k : Int) / (gcds ws : Int)) = ((k / gcds ws : Nat) : Int) := rfl
    refine ⟨?_, ?_⟩
    · show (1 : Int) ≤ (k : Int) / (gcds ws : Int)
      rw [e]
      have := Nat.div_pos (Nat.le_of_dvd hk hd) (Nat.pos_of_ne_zero h0)
      omega
    · show ((k : Int) / (gcds ws : Int)).natAbs < _
      rw [e, Int.natAbs_natCast]
      exact Nat.lt_of_le_of_lt (Nat.div_le_self ..) hb
theorem red_len {ws : List Int} : (if gcds ws = 0 then ws else ws.map fun w => w / (gcds ws : Int)).length = ws.length := by split <;> simp
theorem mod1_small {i : Int} (h1 : 1 ≤ i) (h2 : i < 1000000) : Mod1 i := ⟨h1, Nat.lt_of_lt_of_le (show i.natAbs < 2 ^ 20 by omega) (Nat.pow_le_pow_right (by decide) (by decide))⟩
theorem seq_mid {f g : SM} {env : PEnv} {st : Store} {N : PEnv → Store → Prop} {R : PV → Store → Prop} (M : PEnv → Store → Prop) (h1 : SatS (f env st) M R) (h2 : ∀ e s, M e s → SatS (g e s) N R) : SatS (sSeq f g env st) N R := by
  rw [ss_seq]
  exact h1.mono h2 fun _ _ z => z
end PL
/-! PL, part QA: rows and trees as data of Lean. -/
namespace PL
open PySem PySem.Spec PyProof.Rows L2
theorem det {α : Type} {r : Res α} {a : α} {st : Store} (h : ∀ Q : α → Store → Prop, Q a st → Sat r Q) : r = .ok a st := by
  obtain ⟨b, s, e, h1, h2⟩ := h (fun x s => x = a ∧ s = st) ⟨rfl, rfl⟩
  rw [e, h1, h2]
theorem t_ok {f : EM} {env : PEnv} {st : Store} {b : Bool} (h : ∀ Q : PV → Store → Prop, Q (.bl b) st → Sat (f env st) Q) : eTest f env st = .ok b st := by
  refine det fun Q k => ?_
  rw [sat_test]
  exact h _ (by rw [sat_truth]; exact k)
theorem tn_ok {f : TM} {env : PEnv} {st : Store} {b : Bool} (h : f env st = .ok b st) : tNotM f env st = .ok (!b) st := by
  refine det fun Q k => ?_
  rw [sat_not, h, sat_ok]; exact k
theorem ss_guard {c : TM} {rest : SM} {v : PV} {env : PEnv} {st : Store} {N R} {b : Bool} (hc : c env st = .ok b st) : SatS (sSeq (sIf c (sRet (eC v)) sNil) rest env st) N R = if b = true then R v st else SatS (rest env st) N R := by
  rw [ss_seq, ss_if, hc, sat_ok]
  cases b with
  | true => simp only [if_true, ss_ret, sat_c]
  | false => simp only [Bool.false_eq_true, if_false, ss_nil]
theorem ss_ifb {c : TM} {f g rest : SM} {env : PEnv} {st : Store} {N R} {b : Bool} (hc : c env st = .ok b st) : SatS (sSeq (sIf c f g) rest env st) N R = if b = true then SatS (f env st) (fun e s => SatS (rest e s) N R) R else SatS (g env st) (fun e s => SatS (rest e s) N R) R := by
  rw [ss_seq, ss_if, hc, sat_ok]
theorem sl1 {a : PV} : ([a] : List PV).length ≤ sizeLine := by rw [sizeLine_eq]; show 1 ≤ _; decide
theorem sl2 {a b : PV} : ([a, b] : List PV).length ≤ sizeLine := by rw [sizeLine_eq]; show 2 ≤ _; decide
theorem sl3 {a b c : PV} : ([a, b, c] : List PV).length ≤ sizeLine := by rw [sizeLine_eq]; show 3 ≤ _; decide
theorem sl0 : ([] : List PV).length ≤ sizeLine := Nat.zero_le _
theorem isNn_ne {r : PV} (h : r ≠ .non) : isNn r = false := by
  cases r with
  | non => exact absurd rfl h
  | _ => rfl
theorem gcds_take {ws : List Int} {i : Nat} {z : Int} (hz : ws[i]? = some z) : gcds (ws.take (i + 1)) = Nat.gcd (gcds (ws.take i)) z.natAbs := by
  rw [List.take_add_one, hz]
  show (ws.take i ++ [z]).foldl _ 0 = _
  rw [List.foldl_append]
  rfl
/-! ### kinds -/
theorem kit_ss : kitB "str" "str" = some true := by decide +kernel
theorem kit_ts : kitB "tuple" "str" = some false := by decide +kernel
theorem kit_ls : kitB "list" "str" = some false := by decide +kernel
theorem kit_is : kitB "int" "str" = some false := by decide +kernel
theorem kit_bs : kitB "bool" "str" = some false := by decide +kernel
theorem kit_sb : kitB "str" "bool" = some false := by decide +kernel
theorem kit_tb : kitB "tuple" "bool" = some false := by decide +kernel
theorem kit_lb : kitB "list" "bool" = some false := by decide +kernel
theorem kit_ib : kitB "int" "bool" = some false := by decide +kernel
theorem kit_bb : kitB "bool" "bool" = some true := by decide +kernel
theorem kit_si : kitB "str" "int" = some false := by decide +kernel
theorem kit_ti : kitB "tuple" "int" = some false := by decide +kernel
theorem kit_li : kitB "list" "int" = some false := by decide +kernel
theorem kit_ii : kitB "int" "int" = some true := by decide +kernel
theorem kit_sd : kitB "str" "dict" = some false := by decide +kernel
theorem kit_td : kitB "tuple" "dict" = some false := by decide +kernel
theorem kit_ld : kitB "list" "dict" = some false := by decide +kernel
theorem kit_tt : kitB "tuple" "tuple" = some true := by decide +kernel
theorem kit_lt : kitB "list" "tuple" = some false := by decide +kernel
theorem kit_ll : kitB "list" "list" = some true := by decide +kernel
theorem kit_tl : kitB "tuple" "list" = some false := by decide +kernel
theorem isi_of {v : PV} {n t : String} {b : Bool} {st : Store} {Q : PV → Store → Prop} (h1 : tyName st v = some t) (h2 : kitB t n = some b) : Sat (pIsi [v, .con (.ty n)] st) Q = Q (.bl b) st := by
  have : pIsi [v, .con (.ty n)] st = .ok (.bl b) st := by
    unfold pIsi
    simp only [h1, h2]
  rw [this, sat_ok]
theorem isi_s {z : Str} {st : Store} {Q : PV → Store → Prop} : Sat (pIsi [.str z, .con (.ty "str")] st) Q = Q (.bl true) st := isi_of rfl kit_ss
theorem isi_t {xs : List PV} {st : Store} {Q : PV → Store → Prop} : Sat (pIsi [.tup xs, .con (.ty "str")] st) Q = Q (.bl false) st := isi_of rfl kit_ts
theorem isi_tl {v : PV} {t : String} {st : Store} {Q : PV → Store → Prop} (h1 : tyName st v = some t) (h2 : kitAll t [.con (.ty "tuple"), .con (.ty "list")] = some true) : Sat (pIsi [v, .tup [.con (.ty "tuple"), .con (.ty "list")]] st) Q = Q (.bl true) st := by
  have : pIsi [v, .tup [.con (.ty "tuple"), .con (.ty "list")]] st = .ok (.bl true) st := by
    unfold pIsi
    simp only [h1, h2, allTys, if_true]
  rw [this, sat_ok]
theorem kits_t : kitAll "tuple" [.con (.ty "tuple"), .con (.ty "list")] = some true := by simp only [kitAll, kit_tt]
theorem kits_l : kitAll "list" [.con (.ty "tuple"), .con (.ty "list")] = some true := by simp only [kitAll, kit_lt, kit_ll]
/-! ### rows -/
structure Row where
  n : Str
  o : Int
  ws : List Int
def Row.pv (r : Row) : PV := .tup [.str r.n, .int r.o, .tup (ints' r.ws)]
structure Row.Ok (r : Row) : Prop where
  n : r.n.length ≤ 40
  w1 : 1 ≤ r.ws.length
  w2 : r.ws.length ≤ 64
  m : ∀ w ∈ r.ws, Mod1 w
theorem Row.Ok.g {r : Row} (h : r.Ok) : GRow r.pv := ⟨r.n, r.o, r.ws, rfl, h.n, h.w1, h.w2, h.m⟩
theorem GRow.row {v : PV} (h : GRow v) : ∃ r : Row, v = r.pv ∧ r.Ok := by
  obtain ⟨n, o, ws, rfl, h1, h2, h3, h4⟩ := h
  exact ⟨⟨n, o, ws⟩, rfl, h1, h2, h3, h4⟩
theorem rows_of {vs : List PV} (h : ∀ v ∈ vs, GRow v) : ∃ rs : List Row, vs = rs.map Row.pv ∧ ∀ r ∈ rs, r.Ok := by
  induction vs with
  | nil => exact ⟨[], rfl, nofun⟩
  | cons v vs ih =>
    obtain ⟨r, rfl, hr⟩ := (h v List.mem_cons_self).row
    obtain ⟨rs, rfl, hrs⟩ := ih fun x m => h x (List.mem_cons_of_mem _ m)
    refine ⟨r :: rs, rfl, fun x m => ?_⟩
    rcases List.mem_cons.mp m with rfl | m
    · exact hr
    · exact hrs x m
def rowLe (a b : Row) : Bool := PySem.W.dataLe false toD a.pv b.pv
theorem rowLe_total : PySem.W.TotalLe rowLe where
  trans := fun a b c => by unfold rowLe PySem.W.dataLe; exact (PySem.W.sortLe_total _ false _).trans _ _ _
  total := fun a b => by unfold rowLe PySem.W.dataLe; exact (PySem.W.sortLe_total _ false _).total _ _
theorem sort_rows (rs : List Row) : (rs.map Row.pv).mergeSort (PySem.W.dataLe false toD) = (rs.mergeSort rowLe).map Row.pv := (PySem.W.sort_maps Row.pv fun _ _ _ _ => rfl).symm
theorem sort_perm (rs : List Row) : (rs.mergeSort rowLe).Perm rs := List.mergeSort_perm ..
theorem sort_pair (rs : List Row) : (rs.mergeSort rowLe).Pairwise fun a b => rowLe a b = true := PySem.W.sort_pairwise rowLe_total rs
/-- a new row put in and taken out again -/
theorem sort_out {rs : List Row} {x : Row} (hp : rs.Pairwise fun a b => rowLe a b = true) (hx : ∀ r ∈ rs, r.n ≠ x.n) : ((rs ++ [x]).mergeSort rowLe).filter (fun r => !decide (r.n = x.n)) = rs := by
  have h1 : rs.Sublist ((rs ++ [x]).mergeSort rowLe) := List.sublist_mergeSort (fun a b c => rowLe_total.trans a b c) (fun a b => by have := rowLe_total.total a b; simpa using this) hp (List.sublist_append_left ..)
  have e1 : rs.filter (fun r => !decide (r.n = x.n)) = rs := List.filter_eq_self.mpr fun r m => by simp [hx r m]
  have h2 := h1.filter (fun r => !decide (r.n = x.n))
  rw [e1] at h2
  refine (h2.eq_of_length ?_).symm
  have h3 := ((sort_perm (rs ++ [x])).filter (fun r => !decide (r.n = x.n))).length_eq
  rw [h3, List.filter_append, e1]
  simp
/-! ### trees -/
inductive T where
  | leaf (z : Str)
  | node (n : Str) (cs : List T)
mutual
def T.pv : T → PV
  | .leaf z => .str z
  | .node n cs => .tup [.str n, .tup (T.pvs cs)]
def T.pvs : List T → List PV
  | [] => []
  | c :: cs => c.pv :: T.pvs cs
end
theorem T.pvs_map : ∀ cs : List T, T.pvs cs = cs.map T.pv
  | [] => by simp [T.pvs]
  | c :: cs => by simp [T.pvs, T.pvs_map cs]
theorem T.pvs_len {cs : List T} : (T.pvs cs).length = cs.length := by rw [T.pvs_map, List.length_map]
theorem T.pvs_get {cs : List T} {i : Nat} {v : PV} (h : (T.pvs cs)[i]? = some v) : ∃ c, cs[i]? = some c ∧ v = c.pv := by
  rw [T.pvs_map, List.getElem?_map] at h
  cases e : cs[i]? with
  | none => rw [e] at h; cases h
  | some c => rw [e] at h; cases h; exact ⟨c, rfl, rfl⟩
theorem T.pvs_at {cs : List T} {i : Nat} {c : T} (h : cs[i]? = some c) : (T.pvs cs)[i]? = some c.pv := by
  rw [T.pvs_map, List.getElem?_map, h]; rfl
/-- how deep, how broad -/
inductive T.Fit (c : Nat) : Nat → T → Prop
  | leaf {d : Nat} {z : Str} : z.length ≤ 60 → T.Fit c d (.leaf z)
  | node {d : Nat} {n : Str} {cs : List T} : n.length ≤ 60 → cs.length ≤ c → (∀ x ∈ cs, T.Fit c d x) → T.Fit c (d + 1) (.node n cs)
theorem T.Fit.up {c d : Nat} {t : T} (h : T.Fit c d t) : T.Fit c (d + 1) t := by
  induction h with
  | leaf h => exact .leaf h
  | node h1 h2 _ ih => exact .node h1 h2 ih
theorem T.Fit.mono {c c' : Nat} (hc : c ≤ c') : ∀ {d d' : Nat} {t : T}, T.Fit c d t → d ≤ d' → T.Fit c' d' t
  | _, _, _, .leaf h, _ => .leaf h
  | d + 1, 0, _, .node h1 h2 h3, h => by omega
  | d + 1, d' + 1, _, .node h1 h2 h3, h => .node h1 (Nat.le_trans h2 hc) fun x m => (h3 x m).mono hc (by omega)
/-- an induction for trees with the children's places -/
theorem T.ind {P : T → Prop} (h1 : ∀ z, P (.leaf z)) (h2 : ∀ n cs, (∀ x ∈ cs, P x) → P (.node n cs)) {c : Nat} : ∀ {d : Nat} {t : T}, T.Fit c d t → P t
  | _, _, .leaf _ => h1 _
  | _, _, .node _ _ h => h2 _ _ fun x m => T.ind h1 h2 (h x m)
/-! ### told -/
theorem eqv_self (v : PV) : PyData.eqv (toD v) (toD v) = true := PySem.SeqAt.eqv_refl_plain _ (plain_toD v)
theorem o_eqR {v : PV} {st : Store} {Q : PV → Store → Prop} (h : isD v = true) (h2 : (toD v).depth ≤ 64) : Sat (pEq v v st) Q = Q (.bl true) st := by
  unfold pEq
  rw [if_pos ⟨h, h, by omega⟩, sat_ok, eqv_self]
theorem o_neB {a b : Bool} {st : Store} {Q : PV → Store → Prop} : Sat (pNe (.bl a) (.bl b) st) Q = Q (.bl (a != b)) st := by
  have : pNe (.bl a) (.bl b) st = .ok (.bl (a != b)) st := by
    unfold pNe
    rw [if_pos (by simp [isD, toD, PyData.depth])]
    cases a <;> cases b <;> rfl
  rw [this, sat_ok]
/-- what told looks through -/
inductive Dt : Nat → PV → Prop
  | s {d : Nat} {z : Str} : Dt d (.str z)
  | i {d : Nat} {j : Int} : Dt d (.int j)
  | b {d : Nat} {j : Bool} : Dt d (.bl j)
  | t {d : Nat} {xs : List PV} : xs.length ≤ 1000000 → (∀ x ∈ xs, Dt d x) → Dt (d + 1) (.tup xs)
  | l {d : Nat} {xs : List PV} : xs.length ≤ 1000000 → (∀ x ∈ xs, Dt d x) → Dt (d + 1) (.lst xs)
/-- the turn over the items, of values that are read -/
theorem told_seq {n : Nat} {v w : PV} {ty : String} {b : Bool} {xs : List PV} {st : Store} {Q : PV → Store → Prop} (hv : seqOf st v = some (b, xs)) (hw : seqOf st w = some (b, xs)) (nv : ∀ z, v ≠ .str z) (nw : ∀ z, w ≠ .str z)
    (tv : tyName st v = some ty) (tw : tyName st w = some ty) (ht : ty = "tuple" ∨ ty = "list") (hl : xs.length ≤ 1000000) (wn : isNonP w = some false)
    (hx : ∀ x ∈ xs, fuelF 4 f_law_told n [x, x] st = .ok (.bl true) st) (k : Q (.bl true) st) : Sat (fuelF 4 f_law_told (n + 1) [v, w] st) Q := by
  have lenOf : ∀ u : PV, seqOf st u = some (b, xs) → ∀ Q : PV → Store → Prop, Sat (one pLen [u] st) Q = Q (.int xs.length) st := fun u hu Q => by
    have : one pLen [u] st = .ok (.int xs.length) st := by
      show pLen u st = _
      unfold pLen
      cases u with
      | str z => cases hu
      | _ => simp only [hu]
    rw [this, sat_ok]
  have ixOf' : ∀ u : PV, seqOf st u = some (b, xs) → ∀ (i : Nat) (x : PV), xs[i]? = some x → ∀ Q : PV → Store → Prop, Q x st → Sat (pIx u (.int (0 + (i : Int))) st) Q := fun u hu i x hi Q q => by
    rw [Int.zero_add]
    cases u with
    | tup ys => cases hu; rw [o_ixT]; exact ixW_of hi q
    | lst ys => cases hu; rw [o_ixL]; exact ixW_of hi q
    | frz ys => cases hu; rw [o_ixF]; exact ixW_of hi q
    | loc l =>
      have : st[l]? = some (.lst xs) := by
        unfold seqOf at hu
        simp only at hu
        split at hu
        · rename_i ys e; cases hu; exact e
        · cases hu
      rw [o_ixP this]; exact ixW_of hi q
    | _ => cases hu
  have kb : kitB ty "bool" = some false := by rcases ht with rfl | rfl <;> first | exact kit_tb | exact kit_lb
  have ki : kitB ty "int" = some false := by rcases ht with rfl | rfl <;> first | exact kit_ti | exact kit_li
  have ks : kitB ty "str" = some false := by rcases ht with rfl | rfl <;> first | exact kit_ts | exact kit_ls
  have kd : kitB ty "dict" = some false := by rcases ht with rfl | rfl <;> first | exact kit_td | exact kit_ld
  obtain ⟨kt, ht1⟩ : ∃ x, kitB ty "tuple" = some x := by rcases ht with rfl | rfl <;> first | exact ⟨_, kit_tt⟩ | exact ⟨_, kit_lt⟩
  obtain ⟨kl, hl1⟩ : ∃ x, kitB ty "list" = some x := by rcases ht with rfl | rfl <;> first | exact ⟨_, kit_tl⟩ | exact ⟨_, kit_ll⟩
  have ka : kitAll ty [.con (.ty "tuple"), .con (.ty "list")] = some true := by rcases ht with rfl | rfl <;> first | exact kits_t | exact kits_l
  have isn : ∀ Q : PV → Store → Prop, Sat (pIs w .non st) Q = Q (.bl false) st := fun Q => by
    have : pIs w .non st = .ok (.bl false) st := by unfold pIs; rw [wn]
    rw [this, sat_ok]
  refine sat_body ?_
  unfold f_law_told
  simp only [List.map_cons, List.map_nil, List.length_cons, List.length_nil, Nat.reduceAdd, Nat.reduceSub, List.reduceReplicate, List.cons_append, List.nil_append]
  rw [ss_seq, ss_if, sat_test, sat_bin, sat_var rfl, sat_c, isn, sat_truth, if_neg (by simp), ss_nil]
  rw [ss_seq, ss_if, sat_or, sat_test, sat_args, sat_cons, sat_var rfl, sat_cons, sat_c, sat_nil, isi_of tw kb, sat_truth, if_neg (by simp), sat_test, sat_args, sat_cons, sat_var rfl, sat_cons, sat_c, sat_nil, isi_of tv kb, sat_truth, if_neg (by simp), ss_nil]
  rw [ss_seq, ss_if, sat_test, sat_args, sat_cons, sat_var rfl, sat_cons, sat_c, sat_nil, isi_of tw ki, sat_truth, if_neg (by simp), ss_nil]
  rw [ss_seq, ss_if, sat_test, sat_args, sat_cons, sat_var rfl, sat_cons, sat_c, sat_nil, isi_of tw ks, sat_truth, if_neg (by simp), ss_nil]
  rw [ss_seq, ss_if, sat_test, sat_args, sat_cons, sat_var rfl, sat_cons, sat_c, sat_nil, isi_of tw kd, sat_truth, if_neg (by simp), ss_nil]
  rw [ss_seq, ss_if, sat_or, sat_test, sat_bin, sat_args, sat_cons, sat_var rfl, sat_cons, sat_c, sat_nil, isi_of tw ht1, sat_args, sat_cons, sat_var rfl, sat_cons, sat_c, sat_nil, isi_of tv ht1, o_neB, sat_truth, if_neg (by simp), sat_test, sat_bin, sat_args, sat_cons, sat_var rfl, sat_cons, sat_c, sat_nil, isi_of tw hl1, sat_args, sat_cons, sat_var rfl, sat_cons, sat_c, sat_nil, isi_of tv hl1, o_neB, sat_truth, if_neg (by simp), ss_nil]
  rw [ss_seq, ss_if, sat_or, sat_not, sat_test, sat_args, sat_cons, sat_var rfl, sat_cons, sat_args, sat_cons, sat_c, sat_cons, sat_c, sat_nil, sat_tup]
  refine ⟨sl2, ?_⟩
  rw [sat_nil, isi_tl tv ka, sat_truth, Bool.not_true, if_neg (by simp), sat_test, sat_bin, sat_args, sat_cons, sat_var rfl, sat_nil, lenOf v hv, sat_args, sat_cons, sat_var rfl, sat_nil, lenOf w hw, o_neI, decide_eq_true rfl, sat_truth, Bool.not_true, if_neg (by simp), ss_nil]
  rw [ss_seq, ss_for, sat_iRange1, sat_args, sat_cons, sat_var rfl, sat_nil, lenOf w hw, o_rng]
  refine ⟨⟨by omega, by omega⟩, ?_⟩
  refine for_invN (k := 0) (fun i e s => s = st ∧ ∃ a, e = ([some v, some w, a, none] : PEnv)) ⟨rfl, none, rfl⟩ ?_ ?_
  · rintro i z e s hz ⟨rfl, a, rfl⟩
    obtain ⟨hi, rfl⟩ := rngs_get hz
    have hi : i < xs.length := by omega
    have hg := List.getElem?_eq_getElem hi
    refine ⟨_, rfl, ?_⟩
    rw [ss_if, sat_not, sat_test, sat_call, sat_cons, sat_bin, sat_var rfl, sat_var rfl]
    refine ixOf' v hv i _ hg _ ?_
    rw [sat_cons, sat_bin, sat_var rfl, sat_var rfl]
    refine ixOf' w hw i _ hg _ ?_
    rw [sat_nil]
    refine ⟨rfl, ?_⟩
    show Sat (fuelF 4 f_law_told n [xs[i], xs[i]] s) _
    rw [hx _ (List.getElem_mem hi), sat_ok, sat_truth, Bool.not_true, if_neg (by simp), ss_nil]
    exact ⟨rfl, _, rfl⟩
  · rintro e s ⟨rfl, a, rfl⟩
    rw [ss_ret, sat_c]
    exact k
theorem told_ok : ∀ (n d : Nat) (v : PV) (st : Store), Dt d v → d < n → fuelF 4 f_law_told n [v, v] st = .ok (.bl true) st
  | 0, d, v, st, _, hn => absurd hn (Nat.not_lt_zero _)
  | n + 1, d, v, st, h, hn => by
    refine det fun Q k => ?_
    cases h with
    | @t d xs hl hx => exact told_seq (b := true) (xs := xs) rfl rfl nofun nofun rfl rfl (.inl rfl) hl rfl (fun x m => told_ok n d x st (hx x m) (by omega)) k
    | @l d xs hl hx => exact told_seq (b := false) (xs := xs) rfl rfl nofun nofun rfl rfl (.inr rfl) hl rfl (fun x m => told_ok n d x st (hx x m) (by omega)) k
    | @b _ j =>
      refine sat_body ?_
      unfold f_law_told
      simp only [List.map_cons, List.map_nil, List.length_cons, List.length_nil, Nat.reduceAdd, Nat.reduceSub, List.reduceReplicate, List.cons_append, List.nil_append]
      have isn : ∀ Q : PV → Store → Prop, Sat (pIs (.bl j) .non st) Q = Q (.bl false) st := fun Q => sat_of rfl
      have kb : ∀ Q : PV → Store → Prop, Sat (pIsi [.bl j, .con (.ty "bool")] st) Q = Q (.bl true) st := fun Q => isi_of rfl kit_bb
      rw [ss_seq, ss_if, sat_test, sat_bin, sat_var rfl, sat_c, isn, sat_truth, if_neg (by simp), ss_nil]
      rw [ss_seq, ss_if, sat_or, sat_test, sat_args, sat_cons, sat_var rfl, sat_cons, sat_c, sat_nil, kb, sat_truth, if_pos rfl, if_pos rfl, ss_ret, sat_andv, sat_args, sat_cons, sat_var rfl, sat_cons, sat_c, sat_nil, kb]
      show Sat (eAndV _ _ _ _) Q
      rw [sat_andv, sat_args, sat_cons, sat_var rfl, sat_cons, sat_c, sat_nil, kb]
      show Sat (eBin _ _ _ _ _) Q
      rw [sat_bin, sat_var rfl, sat_var rfl, o_eqR (by simp [isD]) (by simp [toD, PyData.depth])]
      exact k
    | @i _ j =>
      refine sat_body ?_
      unfold f_law_told
      simp only [List.map_cons, List.map_nil, List.length_cons, List.length_nil, Nat.reduceAdd, Nat.reduceSub, List.reduceReplicate, List.cons_append, List.nil_append]
      have isn : ∀ Q : PV → Store → Prop, Sat (pIs (.int j) .non st) Q = Q (.bl false) st := fun Q => sat_of rfl
      have kb : ∀ Q : PV → Store → Prop, Sat (pIsi [.int j, .con (.ty "bool")] st) Q = Q (.bl false) st := fun Q => isi_of rfl kit_ib
      have ki : ∀ Q : PV → Store → Prop, Sat (pIsi [.int j, .con (.ty "int")] st) Q = Q (.bl true) st := fun Q => isi_of rfl kit_ii
      rw [ss_seq, ss_if, sat_test, sat_bin, sat_var rfl, sat_c, isn, sat_truth, if_neg (by simp), ss_nil]
      rw [ss_seq, ss_if, sat_or, sat_test, sat_args, sat_cons, sat_var rfl, sat_cons, sat_c, sat_nil, kb, sat_truth, if_neg (by simp), sat_test, sat_args, sat_cons, sat_var rfl, sat_cons, sat_c, sat_nil, kb, sat_truth, if_neg (by simp), ss_nil]
      rw [ss_seq, ss_if, sat_test, sat_args, sat_cons, sat_var rfl, sat_cons, sat_c, sat_nil, ki, sat_truth, if_pos rfl, ss_ret, sat_andv, sat_args, sat_cons, sat_var rfl, sat_cons, sat_c, sat_nil, ki]
      show Sat (eBin _ _ _ _ _) Q
      rw [sat_bin, sat_var rfl, sat_var rfl, o_eqR (by simp [isD]) (by simp [toD, PyData.depth])]
      exact k
    | @s _ z =>
      refine sat_body ?_
      unfold f_law_told
      simp only [List.map_cons, List.map_nil, List.length_cons, List.length_nil, Nat.reduceAdd, Nat.reduceSub, List.reduceReplicate, List.cons_append, List.nil_append]
      have kb : ∀ Q : PV → Store → Prop, Sat (pIsi [.str z, .con (.ty "bool")] st) Q = Q (.bl false) st := fun Q => isi_of rfl kit_sb
      have ki : ∀ Q : PV → Store → Prop, Sat (pIsi [.str z, .con (.ty "int")] st) Q = Q (.bl false) st := fun Q => isi_of rfl kit_si
      rw [ss_seq, ss_if, sat_test, sat_bin, sat_var rfl, sat_c, o_isS, sat_truth, if_neg (by simp), ss_nil]
      rw [ss_seq, ss_if, sat_or, sat_test, sat_args, sat_cons, sat_var rfl, sat_cons, sat_c, sat_nil, kb, sat_truth, if_neg (by simp), sat_test, sat_args, sat_cons, sat_var rfl, sat_cons, sat_c, sat_nil, kb, sat_truth, if_neg (by simp), ss_nil]
      rw [ss_seq, ss_if, sat_test, sat_args, sat_cons, sat_var rfl, sat_cons, sat_c, sat_nil, ki, sat_truth, if_neg (by simp), ss_nil]
      rw [ss_seq, ss_if, sat_test, sat_args, sat_cons, sat_var rfl, sat_cons, sat_c, sat_nil, isi_s, sat_truth, if_pos rfl, ss_ret, sat_andv, sat_args, sat_cons, sat_var rfl, sat_cons, sat_c, sat_nil, isi_s]
      show Sat (eBin _ _ _ _ _) Q
      rw [sat_bin, sat_var rfl, sat_var rfl, o_eqR (by simp [isD]) (by simp [toD, PyData.depth])]
      exact k
theorem told_loc {n d a b : Nat} {xs : List PV} {st : Store} (ha : st[a]? = some (.lst xs)) (hb : st[b]? = some (.lst xs)) (hl : xs.length ≤ 1000000) (hx : ∀ x ∈ xs, Dt d x) (hn : d < n) : fuelF 4 f_law_told (n + 1) [.loc a, .loc b] st = .ok (.bl true) st := by
  have q : ∀ c : Nat, st[c]? = some (.lst xs) → seqOf st (.loc c) = some (false, xs) ∧ tyName st (.loc c) = some "list" := fun c h => ⟨by unfold seqOf; simp only [h], by unfold tyName; simp only [h]⟩
  exact det fun Q k => told_seq (q a ha).1 (q b hb).1 nofun nofun (q a ha).2 (q b hb).2 (.inr rfl) hl rfl (fun x m => told_ok n d x st (hx x m) hn) k
end PL
/-! PL, part QB: drawn rows, outcomes. -/
namespace PL
open PySem PySem.Spec PyProof.Rows L2
/-- rows as they are drawn -/
structure Gen (rs : List Row) : Prop where
  ok : ∀ r ∈ rs, r.Ok
  nd : (rs.map (·.n)).Nodup
  so : rs.Pairwise fun a b => rowLe a b = true
  nm : ∀ r ∈ rs, r.n.length ≤ 6
  ow : ∀ r ∈ rs, 0 ≤ r.o ∧ r.o ≤ 2
  w3 : ∀ r ∈ rs, r.ws.length ≤ 3
theorem log2_k {i : Int} {n : Nat} (h0 : 0 ≤ i) (h1 : i ≤ n) (h2 : n < 9000 := by omega) : i.natAbs.log2 < 9000 := Nat.lt_of_le_of_lt (Nat.log2_le_self _) (by omega)
theorem row_ix0 {r : Row} {st : Store} {Q : PV → Store → Prop} : Sat (pIx r.pv (.int 0) st) Q = Q (.str r.n) st := by unfold Row.pv; rw [o_ixT, ixW_0]
theorem row_ix1 {r : Row} {st : Store} {Q : PV → Store → Prop} : Sat (pIx r.pv (.int 1) st) Q = Q (.int r.o) st := by unfold Row.pv; rw [o_ixT, ixW_1]
theorem row_ix2 {r : Row} {st : Store} {Q : PV → Store → Prop} : Sat (pIx r.pv (.int 2) st) Q = Q (.tup (ints' r.ws)) st := by unfold Row.pv; rw [o_ixT, ixW_2]
theorem row_is {r : Row} {st : Store} {Q : PV → Store → Prop} : Sat (pIs r.pv .non st) Q = Q (.bl false) st := by unfold Row.pv; exact o_isT
theorem row_isNot {r : Row} {st : Store} {Q : PV → Store → Prop} : Sat (pIsNot r.pv .non st) Q = Q (.bl true) st := by unfold Row.pv; exact o_isNotT
/-- a comprehension that maps every item -/
theorem comp_map {α : Type} {i : Nat} {elt : EM} {env : PEnv} {as : List α} {f : α → PV} {g : α → PV} {st : Store} {Q : List PV → Store → Prop} (hi : i < env.length) (hn : as.length ≤ 1000000)
    (hs : ∀ a ∈ as, elt (env.set i (some (f a))) st = .ok (g a) st) (hd : Q (as.map g) st) (ok : Store → Prop) (hok : ok st) :
    Sat (compL (.one i) tYesM elt ok (as.map f) env st []) Q := by
  refine comp_inv (fun j acc t => t = st ∧ acc = (as.take j).map g) (k := 0) ⟨rfl, rfl⟩ ?_ ?_ (by rintro i a t ⟨rfl, _⟩; exact hok)
  · rintro j v t acc hv ⟨rfl, rfl⟩
    rw [List.getElem?_map] at hv
    cases e : as[j]? with
    | none => rw [e] at hv; cases hv
    | some a =>
      rw [e] at hv
      cases hv
      refine ⟨_, rfl, ?_⟩
      rw [sat_yes, if_pos rfl, hs a (List.mem_of_getElem? e), sat_ok, Nat.zero_add]
      have hj : j < as.length := (List.getElem?_eq_some_iff.mp e).1
      refine ⟨by rw [sizeLine_eq, List.length_map, List.length_take]; omega, rfl, ?_⟩
      rw [List.take_add_one, e]
      simp
  · rintro acc t ⟨rfl, rfl⟩
    rw [Nat.zero_add, List.length_map, List.take_length]
    exact hd
/-- a comprehension that picks -/
theorem comp_filt {α : Type} {i : Nat} {test : TM} {elt : EM} {env : PEnv} {as : List α} {f : α → PV} {g : α → PV} {p : α → Bool} {st : Store} {Q : List PV → Store → Prop} (hi : i < env.length) (hn : as.length ≤ 1000000)
    (ht : ∀ a ∈ as, test (env.set i (some (f a))) st = .ok (p a) st) (hs : ∀ a ∈ as, p a = true → elt (env.set i (some (f a))) st = .ok (g a) st) (hd : Q ((as.filter p).map g) st) (ok : Store → Prop) (hok : ok st) :
    Sat (compL (.one i) test elt ok (as.map f) env st []) Q := by
  refine comp_inv (fun j acc t => t = st ∧ acc = ((as.take j).filter p).map g) (k := 0) ⟨rfl, rfl⟩ ?_ ?_ (by rintro i a t ⟨rfl, _⟩; exact hok)
  · rintro j v t acc hv ⟨rfl, rfl⟩
    rw [List.getElem?_map] at hv
    cases e : as[j]? with
    | none => rw [e] at hv; cases hv
    | some a =>
      rw [e] at hv
      cases hv
      refine ⟨_, rfl, ?_⟩
      have ma := List.mem_of_getElem? e
      rw [ht a ma, sat_ok, Nat.zero_add]
      have hj : j < as.length := (List.getElem?_eq_some_iff.mp e).1
      have e1 : as.take (j + 1) = as.take j ++ [a] := by rw [List.take_add_one, e]; rfl
      cases hp : p a with
      | true =>
        rw [if_pos rfl, hs a ma hp, sat_ok]
        refine ⟨?_, rfl, by rw [e1, List.filter_append]; simp [hp]⟩
        have h1 := List.length_filter_le p (as.take j)
        have h2 : (as.take j).length ≤ as.length := by rw [List.length_take]; omega
        rw [sizeLine_eq, List.length_map]
        omega
      | false =>
        rw [if_neg (by simp)]
        exact ⟨rfl, by rw [e1, List.filter_append]; simp [hp]⟩
  · rintro acc t ⟨rfl, rfl⟩
    rw [Nat.zero_add, List.length_map, List.take_length]
    exact hd
theorem owned_ok {ns : List Int} {l : Nat} {st : Store} {Q : PV → Store → Prop} {ow : List Int} {most : Int} (hs : SrcAt st l) (ho : ∀ o ∈ ow, 0 ≤ o ∧ o ≤ 2) (h2 : ow.length ≤ 10) (hm1 : 1 ≤ most) (hm2 : most ≤ 1000)
    (k : ∀ rs s, Gen rs → rs.length = ow.length → SrcAt s l → Gr [l] st s → Q (.tup (rs.map Row.pv)) s) : Sat (m_law_owned [scr ns, .loc l, .lst (ints' ow), .int most] st) Q := by
  have hl := hs.lt
  refine sat_body ?_
  unfold f_law_owned
  simp only [List.map_cons, List.map_nil, List.length_cons, List.length_nil, Nat.reduceAdd, Nat.reduceSub, List.reduceReplicate, List.cons_append, List.nil_append]
  rw [ss_seq, ss_set, sat_args, sat_nil, sat_loc]
  refine ⟨sl0, ?_⟩
  have s0 : SrcAt (st ++ [.lst []]) l := hs.gr (L := []) .app (by simp)
  have g0 : Gr [l] st (st ++ [.lst []]) := .app
  have r0 : (st ++ [.lst []])[st.length]? = some (.lst []) := by simp
  generalize st ++ [PO.lst []] = st0 at *
  generalize hrp : st.length = rp at *
  refine seq_mid (fun e s => ∃ (rs : List Row) (most : Int) (a b c : Option PV), e = ([some (scr ns), some (PV.loc l), some (PV.lst (ints' ow)), some (PV.int (most)), some (PV.loc rp), a, b, c, none, none] : PEnv) ∧ s[rp]? = some (.lst (rs.map Row.pv)) ∧ rs.length = ow.length ∧ (∀ r ∈ rs, r.Ok) ∧ (rs.map (·.n)).Nodup ∧ (∀ r ∈ rs, r.n.length ≤ 6) ∧ (∀ r ∈ rs, 0 ≤ r.o ∧ r.o ≤ 2) ∧ (∀ r ∈ rs, r.ws.length ≤ 3) ∧ SrcAt s l ∧ Gr [l, rp] st0 s) ?_ ?_
  · rw [ss_for, sat_iVal, sat_var rfl, o_itL]
    refine for_invN (k := 0) (fun i e s => ∃ (rs : List Row) (most : Int) (a b c : Option PV), e = ([some (scr ns), some (PV.loc l), some (PV.lst (ints' ow)), some (PV.int (most)), some (PV.loc rp), a, b, c, none, none] : PEnv) ∧ 1 ≤ most ∧ most ≤ 1000 ∧ s[rp]? = some (.lst (rs.map Row.pv)) ∧ rs.length = i ∧ (∀ r ∈ rs, r.Ok) ∧ (rs.map (·.n)).Nodup ∧ (∀ r ∈ rs, r.n.length ≤ 6) ∧ (∀ r ∈ rs, 0 ≤ r.o ∧ r.o ≤ 2) ∧ (∀ r ∈ rs, r.ws.length ≤ 3) ∧ SrcAt s l ∧ Gr [l, rp] st0 s)
      ⟨[], most, none, none, none, rfl, hm1, hm2, r0, rfl, nofun, List.nodup_nil, nofun, nofun, nofun, s0, .refl⟩ ?_ ?_
    · rintro i v e s hv ⟨rs, most, a, b, c, rfl, hm1, hm2, hr, hlen, hok, hnd, hnm, how, hw3, hsr, g4⟩
      rw [Nat.zero_add] at hlen ⊢
      have hi : i < ow.length := by
        have := (List.getElem?_eq_some_iff.mp hv).1
        rwa [List.length_map] at this
      obtain ⟨one, h1, rfl⟩ : ∃ one, (0 ≤ one ∧ one ≤ 2) ∧ v = .int one := by
        rw [List.getElem?_map, List.getElem?_eq_getElem hi] at hv
        cases hv
        exact ⟨_, ho _ (List.getElem_mem hi), rfl⟩
      refine ⟨_, rfl, ?_⟩
      refine seq_mid (fun e t => ∃ cnt : Int, 1 ≤ cnt ∧ cnt ≤ 3 ∧ e = ([some (scr ns), some (PV.loc l), some (PV.lst (ints' ow)), some (PV.int (most)), some (PV.loc rp), some (PV.int one), some (PV.int cnt), c, none, none] : PEnv) ∧ SrcAt t l ∧ Gr [l] s t) ?_ ?_
      · simp only [sat_ok, sat_bind, sat_v, sat_c, sat_bin, sat_un, sat_test, sat_truth, sat_and, sat_or, sat_not, sat_yes, sat_andv, sat_notv, sat_chain, sat_nil, sat_cons, sat_args, sat_call, sat_callX, sat_meth, sat_one, sat_oNone, sat_oSome, sat_sl, sat_tup, sat_lst, sat_loc, ss_nil, ss_seq, ss_set, ss_expr, ss_ret, ss_retN, ss_if, ss_tg, ss_par, ss_sub, ss_for, sat_comp, setTg, setTgs, wipeP, sizeLine_eq, List.map_cons, List.map_nil, List.length_cons, List.length_nil, List.cons_append, List.nil_append, List.set_cons_zero, List.set_cons_succ, List.getElem?_cons_zero, List.getElem?_cons_succ, Nat.reduceAdd, Nat.reduceSub, Nat.reduceLeDiff, List.reduceReplicate, Option.some.injEq, exists_eq_left', true_and, and_true, Nat.zero_add, o_addI, o_addS, o_addT, o_addL, o_subI, o_mulI, o_fdivI, o_modI, o_powI, o_negI, o_eqI, o_neI, o_eqS, o_neS, o_ltI, o_gtI, o_leI, o_geI, o_ltS, o_geS, o_inS, o_notInS, o_isN, o_isNotN, o_isT, o_isNotT, o_isS, o_isNotS, o_int, o_intB, o_abs, o_str, o_lenT, o_lenL, o_lenF, o_lenS, o_ixT, o_ixL, o_ixF, ixW_0, ixW_1, ixW_2, o_isStr, o_tupL, o_tupT, o_listT, o_listL, o_listLocT, o_gcd, o_bits, o_finF, o_finT, sat_iVal, sat_iEnum, sat_iRange1, sat_iRange2, o_itT, o_itL, o_itF, o_itS, o_enT, o_rng]
        refine draw' hsr (by decide) (by decide) fun q1 t1 c0 c1 ht1 f1 => ?_
        simp only [o_addI, o_addS, o_addT, o_addL, o_subI, o_mulI, o_fdivI, o_modI, o_powI, o_negI, o_eqI, o_neI, o_eqS, o_neS, o_ltI, o_gtI, o_leI, o_geI, o_ltS, o_geS, o_inS, o_notInS, o_isN, o_isNotN, o_isT, o_isNotT, o_isS, o_isNotS, o_int, o_intB, o_abs, o_str, o_lenT, o_lenL, o_lenF, o_lenS, o_ixT, o_ixL, o_ixF, ixW_0, ixW_1, ixW_2, o_isStr, o_tupL, o_tupT, o_listT, o_listL, o_listLocT, o_gcd, o_bits, o_finF, o_finT, sat_iVal, sat_iEnum, sat_iRange1, sat_iRange2, o_itT, o_itL, o_itF, o_itS, o_enT, o_rng]
        refine draw_len c0 (by show q1 < 6; omega) fun y hy => ?_
        obtain ⟨cnt, rfl, hcn⟩ : ∃ c : Int, y = .int c ∧ 1 ≤ c ∧ c ≤ 3 := by
          simp only [List.mem_cons, List.not_mem_nil, or_false] at hy
          rcases hy with rfl | rfl | rfl | rfl | rfl | rfl <;> exact ⟨_, rfl, by decide, by decide⟩
        exact ⟨cnt, hcn.1, hcn.2, rfl, ht1, f1⟩
      rintro e t ⟨cnt, c1, c2, rfl, ht, f1⟩
      refine seq_mid (fun e t' => ∃ cnt : Int, 1 ≤ cnt ∧ cnt ≤ 3 ∧ cnt ≤ most ∧ e = ([some (scr ns), some (PV.loc l), some (PV.lst (ints' ow)), some (PV.int (most)), some (PV.loc rp), some (PV.int one), some (PV.int cnt), c, none, none] : PEnv) ∧ t' = t) ?_ ?_
      · simp only [sat_ok, sat_bind, sat_v, sat_c, sat_bin, sat_un, sat_test, sat_truth, sat_and, sat_or, sat_not, sat_yes, sat_andv, sat_notv, sat_chain, sat_nil, sat_cons, sat_args, sat_call, sat_callX, sat_meth, sat_one, sat_oNone, sat_oSome, sat_sl, sat_tup, sat_lst, sat_loc, ss_nil, ss_seq, ss_set, ss_expr, ss_ret, ss_retN, ss_if, ss_tg, ss_par, ss_sub, ss_for, sat_comp, setTg, setTgs, wipeP, sizeLine_eq, List.map_cons, List.map_nil, List.length_cons, List.length_nil, List.cons_append, List.nil_append, List.set_cons_zero, List.set_cons_succ, List.getElem?_cons_zero, List.getElem?_cons_succ, Nat.reduceAdd, Nat.reduceSub, Nat.reduceLeDiff, List.reduceReplicate, Option.some.injEq, exists_eq_left', true_and, and_true, Nat.zero_add, o_addI, o_addS, o_addT, o_addL, o_subI, o_mulI, o_fdivI, o_modI, o_powI, o_negI, o_eqI, o_neI, o_eqS, o_neS, o_ltI, o_gtI, o_leI, o_geI, o_ltS, o_geS, o_inS, o_notInS, o_isN, o_isNotN, o_isT, o_isNotT, o_isS, o_isNotS, o_int, o_intB, o_abs, o_str, o_lenT, o_lenL, o_lenF, o_lenS, o_ixT, o_ixL, o_ixF, ixW_0, ixW_1, ixW_2, o_isStr, o_tupL, o_tupT, o_listT, o_listL, o_listLocT, o_gcd, o_bits, o_finF, o_finT, sat_iVal, sat_iEnum, sat_iRange1, sat_iRange2, o_itT, o_itL, o_itF, o_itS, o_enT, o_rng]
        split
        · exact ⟨1, by decide, by decide, hm1, by first | rfl | exact ⟨rfl, rfl⟩⟩
        · rename_i h
          exact ⟨cnt, c1, c2, by simpa using h, by first | rfl | exact ⟨rfl, rfl⟩⟩
      rintro e t' ⟨cnt, d1, d2, d3, rfl, rfl⟩
      have hmost : 1 ≤ most / cnt := by
        rw [Int.le_ediv_iff_mul_le (by omega)]; omega
      have hmost2 : most / cnt ≤ 1000 := Int.le_trans (Int.ediv_le_self _ (by omega)) hm2
      refine seq_mid (fun e t => e = ([some (scr ns), some (PV.loc l), some (PV.lst (ints' ow)), some (PV.int (most / cnt)), some (PV.loc rp), some (PV.int one), some (PV.int cnt), c, none, none] : PEnv) ∧ t = t') ?_ ?_
      · simp only [sat_ok, sat_bind, sat_v, sat_c, sat_bin, sat_un, sat_test, sat_truth, sat_and, sat_or, sat_not, sat_yes, sat_andv, sat_notv, sat_chain, sat_nil, sat_cons, sat_args, sat_call, sat_callX, sat_meth, sat_one, sat_oNone, sat_oSome, sat_sl, sat_tup, sat_lst, sat_loc, ss_nil, ss_seq, ss_set, ss_expr, ss_ret, ss_retN, ss_if, ss_tg, ss_par, ss_sub, ss_for, sat_comp, setTg, setTgs, wipeP, sizeLine_eq, List.map_cons, List.map_nil, List.length_cons, List.length_nil, List.cons_append, List.nil_append, List.set_cons_zero, List.set_cons_succ, List.getElem?_cons_zero, List.getElem?_cons_succ, Nat.reduceAdd, Nat.reduceSub, Nat.reduceLeDiff, List.reduceReplicate, Option.some.injEq, exists_eq_left', true_and, and_true, Nat.zero_add, o_addI, o_addS, o_addT, o_addL, o_subI, o_mulI, o_fdivI, o_modI, o_powI, o_negI, o_eqI, o_neI, o_eqS, o_neS, o_ltI, o_gtI, o_leI, o_geI, o_ltS, o_geS, o_inS, o_notInS, o_isN, o_isNotN, o_isT, o_isNotT, o_isS, o_isNotS, o_int, o_intB, o_abs, o_str, o_lenT, o_lenL, o_lenF, o_lenS, o_ixT, o_ixL, o_ixF, ixW_0, ixW_1, ixW_2, o_isStr, o_tupL, o_tupT, o_listT, o_listL, o_listLocT, o_gcd, o_bits, o_finF, o_finT, sat_iVal, sat_iEnum, sat_iRange1, sat_iRange2, o_itT, o_itL, o_itF, o_itS, o_enT, o_rng]
        exact ⟨by omega, Nat.lt_of_le_of_lt (Nat.log2_le_self _) (by omega)⟩
      rintro e t ⟨rfl, rfl⟩
      -- the weights
      refine seq_mid (fun e t' => ∃ ws : List Int, e = ([some (scr ns), some (PV.loc l), some (PV.lst (ints' ow)), some (PV.int (most / cnt)), some (PV.loc rp), some (PV.int one), some (PV.int cnt), some (PV.lst (ints' ws)), none, none] : PEnv) ∧ ws.length = cnt.toNat ∧ (∀ w ∈ ws, Mod1 w) ∧ SrcAt t' l ∧ Gr [l] s t') ?_ ?_
      · simp only [sat_ok, sat_bind, sat_v, sat_c, sat_bin, sat_un, sat_test, sat_truth, sat_and, sat_or, sat_not, sat_yes, sat_andv, sat_notv, sat_chain, sat_nil, sat_cons, sat_args, sat_call, sat_callX, sat_meth, sat_one, sat_oNone, sat_oSome, sat_sl, sat_tup, sat_lst, sat_loc, ss_nil, ss_seq, ss_set, ss_expr, ss_ret, ss_retN, ss_if, ss_tg, ss_par, ss_sub, ss_for, sat_comp, setTg, setTgs, wipeP, sizeLine_eq, List.map_cons, List.map_nil, List.length_cons, List.length_nil, List.cons_append, List.nil_append, List.set_cons_zero, List.set_cons_succ, List.getElem?_cons_zero, List.getElem?_cons_succ, Nat.reduceAdd, Nat.reduceSub, Nat.reduceLeDiff, List.reduceReplicate, Option.some.injEq, exists_eq_left', true_and, and_true, Nat.zero_add, o_addI, o_addS, o_addT, o_addL, o_subI, o_mulI, o_fdivI, o_modI, o_powI, o_negI, o_eqI, o_neI, o_eqS, o_neS, o_ltI, o_gtI, o_leI, o_geI, o_ltS, o_geS, o_inS, o_notInS, o_isN, o_isNotN, o_isT, o_isNotT, o_isS, o_isNotS, o_int, o_intB, o_abs, o_str, o_lenT, o_lenL, o_lenF, o_lenS, o_ixT, o_ixL, o_ixF, ixW_0, ixW_1, ixW_2, o_isStr, o_tupL, o_tupT, o_listT, o_listL, o_listLocT, o_gcd, o_bits, o_finF, o_finT, sat_iVal, sat_iEnum, sat_iRange1, sat_iRange2, o_itT, o_itL, o_itF, o_itS, o_enT, o_rng]
        refine ⟨⟨by omega, by omega⟩, ?_⟩
        refine comp_rng (fun y => ∃ w, y = .int w ∧ Mod1 w) (fun t' => SrcAt t' l ∧ Gr [l] s t') (by simp) (by omega) ⟨ht, f1⟩ (fun j t' hI => ?_) fun ys t' hl2 hE hI => ?_
        · simp only [sat_ok, sat_bind, sat_v, sat_c, sat_bin, sat_un, sat_test, sat_truth, sat_and, sat_or, sat_not, sat_yes, sat_andv, sat_notv, sat_chain, sat_nil, sat_cons, sat_args, sat_call, sat_callX, sat_meth, sat_one, sat_oNone, sat_oSome, sat_sl, sat_tup, sat_lst, sat_loc, ss_nil, ss_seq, ss_set, ss_expr, ss_ret, ss_retN, ss_if, ss_tg, ss_par, ss_sub, ss_for, sat_comp, setTg, setTgs, wipeP, sizeLine_eq, List.map_cons, List.map_nil, List.length_cons, List.length_nil, List.cons_append, List.nil_append, List.set_cons_zero, List.set_cons_succ, List.getElem?_cons_zero, List.getElem?_cons_succ, Nat.reduceAdd, Nat.reduceSub, Nat.reduceLeDiff, List.reduceReplicate, Option.some.injEq, exists_eq_left', true_and, and_true, Nat.zero_add]
          exact ⟨⟨1, rfl, mod1_small (by decide) (by decide)⟩, hI⟩
        · obtain ⟨ws, rfl, hws⟩ := ints_of hE
          exact ⟨ws, rfl, by simpa using hl2, hws, hI.1, hI.2⟩
      rintro e t1 ⟨ws, rfl, hwl, hwm, ht1, f2⟩
      refine seq_mid (fun e t' => ∃ ws : List Int, e = ([some (scr ns), some (PV.loc l), some (PV.lst (ints' ow)), some (PV.int (most / cnt)), some (PV.loc rp), some (PV.int one), some (PV.int cnt), some (PV.lst (ints' ws)), none, none] : PEnv) ∧ ws.length = cnt.toNat ∧ (∀ w ∈ ws, Mod1 w) ∧ SrcAt t' l ∧ Gr [l] s t') ?_ ?_
      · rw [ss_if, sat_test, sat_bin, sat_var rfl, sat_c, o_eqI, sat_truth]
        split
        · simp only [sat_ok, sat_bind, sat_v, sat_c, sat_bin, sat_un, sat_test, sat_truth, sat_and, sat_or, sat_not, sat_yes, sat_andv, sat_notv, sat_chain, sat_nil, sat_cons, sat_args, sat_call, sat_callX, sat_meth, sat_one, sat_oNone, sat_oSome, sat_sl, sat_tup, sat_lst, sat_loc, ss_nil, ss_seq, ss_set, ss_expr, ss_ret, ss_retN, ss_if, ss_tg, ss_par, ss_sub, ss_for, sat_comp, setTg, setTgs, wipeP, sizeLine_eq, List.map_cons, List.map_nil, List.length_cons, List.length_nil, List.cons_append, List.nil_append, List.set_cons_zero, List.set_cons_succ, List.getElem?_cons_zero, List.getElem?_cons_succ, Nat.reduceAdd, Nat.reduceSub, Nat.reduceLeDiff, List.reduceReplicate, Option.some.injEq, exists_eq_left', true_and, and_true, Nat.zero_add, o_addI, o_addS, o_addT, o_addL, o_subI, o_mulI, o_fdivI, o_modI, o_powI, o_negI, o_eqI, o_neI, o_eqS, o_neS, o_ltI, o_gtI, o_leI, o_geI, o_ltS, o_geS, o_inS, o_notInS, o_isN, o_isNotN, o_isT, o_isNotT, o_isS, o_isNotS, o_int, o_intB, o_abs, o_str, o_lenT, o_lenL, o_lenF, o_lenS, o_ixT, o_ixL, o_ixF, ixW_0, ixW_1, ixW_2, o_isStr, o_tupL, o_tupT, o_listT, o_listL, o_listLocT, o_gcd, o_bits, o_finF, o_finT, sat_iVal, sat_iEnum, sat_iRange1, sat_iRange2, o_itT, o_itL, o_itF, o_itS, o_enT, o_rng]
          refine ⟨⟨by omega, by omega⟩, ?_⟩
          refine comp_rng (fun y => ∃ w, y = .int w ∧ Mod1 w) (fun t' => SrcAt t' l ∧ Gr [l] s t') (by simp) (by omega) ⟨ht1, f2⟩ (fun j t' hI => ?_) fun ys t' hl2 hE hI => ?_
          · simp only [sat_ok, sat_bind, sat_v, sat_c, sat_bin, sat_un, sat_test, sat_truth, sat_and, sat_or, sat_not, sat_yes, sat_andv, sat_notv, sat_chain, sat_nil, sat_cons, sat_args, sat_call, sat_callX, sat_meth, sat_one, sat_oNone, sat_oSome, sat_sl, sat_tup, sat_lst, sat_loc, ss_nil, ss_seq, ss_set, ss_expr, ss_ret, ss_retN, ss_if, ss_tg, ss_par, ss_sub, ss_for, sat_comp, setTg, setTgs, wipeP, sizeLine_eq, List.map_cons, List.map_nil, List.length_cons, List.length_nil, List.cons_append, List.nil_append, List.set_cons_zero, List.set_cons_succ, List.getElem?_cons_zero, List.getElem?_cons_succ, Nat.reduceAdd, Nat.reduceSub, Nat.reduceLeDiff, List.reduceReplicate, Option.some.injEq, exists_eq_left', true_and, and_true, Nat.zero_add]
            refine draw' hI.1 (by decide) (by decide) fun q t2 e0 e1 ht2 f3 => ?_
            simp only [o_addI, o_addS, o_addT, o_addL, o_subI, o_mulI, o_fdivI, o_modI, o_powI, o_negI, o_eqI, o_neI, o_eqS, o_neS, o_ltI, o_gtI, o_leI, o_geI, o_ltS, o_geS, o_inS, o_notInS, o_isN, o_isNotN, o_isT, o_isNotT, o_isS, o_isNotS, o_int, o_intB, o_abs, o_str, o_lenT, o_lenL, o_lenF, o_lenS, o_ixT, o_ixL, o_ixF, ixW_0, ixW_1, ixW_2, o_isStr, o_tupL, o_tupT, o_listT, o_listL, o_listLocT, o_gcd, o_bits, o_finF, o_finT, sat_iVal, sat_iEnum, sat_iRange1, sat_iRange2, o_itT, o_itL, o_itF, o_itS, o_enT, o_rng]
            exact ⟨⟨_, rfl, mod1_small (by omega) (by omega)⟩, ht2, hI.2.trans f3⟩
          · obtain ⟨ws, rfl, hws⟩ := ints_of hE
            exact ⟨ws, rfl, by simpa using hl2, hws, hI.1, hI.2⟩
        · rw [ss_nil]
          exact ⟨ws, rfl, hwl, hwm, ht1, f2⟩
      rintro e t2 ⟨ws, rfl, hwl, hwm, ht2, f3⟩
      have hr2 := f3.at' hr (show rp ∉ [l] by simp; omega)
      have hrpl := lt_of_some hr2
      rw [ss_expr, sat_meth, sat_var rfl]
      refine ⟨o_isL hr2, ?_⟩
      rw [sat_cons, sat_args, sat_cons, sat_call, sat_cons, sat_var rfl, sat_cons, sat_var rfl, sat_cons, sat_comp, sat_iVal, sat_var rfl, o_itP hr2]
      refine comp_map (as := rs) (f := Row.pv) (g := fun r => .str r.n) (by simp [wipeP]) (by omega) (fun r mr => det fun Q k => by
        rw [sat_bin, sat_var (v := r.pv) (by simp [wipeP]), sat_c, row_ix0]; exact k) ?_ _ hr2
      rw [o_finF, sat_nil]
      refine ⟨rfl, ?_⟩
      have e2 : rs.map (fun r => PV.str r.n) = (rs.map (·.n)).map PV.str := by rw [List.map_map]; rfl
      rw [e2]
      refine name' ht2 (Use.lst (n := 900) (us := rs.map (·.n)) (by rw [List.length_map]; omega)) (by decide) fun z t3 z1 z2 ht3 f4 => ?_
      rw [sat_cons, sat_var rfl, sat_cons, sat_call, sat_cons, sat_var rfl, sat_nil]
      refine ⟨rfl, reduced_ok (.inl (.inr (.inl rfl))) hwm (by omega) fun _ => ?_⟩
      rw [sat_nil, sat_tup]
      refine ⟨sl3, ?_⟩
      have hr3 := f4.at' hr2 (show rp ∉ [l] by simp; omega)
      rw [sat_nil, o_app hr3]
      refine ⟨by rw [sizeLine_eq, List.length_map]; omega, ?_⟩
      generalize hx : (⟨z, one, if gcds ws = 0 then ws else ws.map fun w => w / (gcds ws : Int)⟩ : Row) = x
      have xo : x.Ok := by
        subst hx
        exact ⟨by show z.length ≤ 40; omega, by show 1 ≤ (if _ then _ else _ : List Int).length; rw [red_len]; omega, by show (if _ then _ else _ : List Int).length ≤ 64; rw [red_len]; omega, red_mod hwm⟩
      have xn : x.n = z := by subst hx; rfl
      have xow : x.o = one := by subst hx; rfl
      have xw : x.ws.length ≤ 3 := by
        subst hx
        show (if _ then _ else _ : List Int).length ≤ 3
        rw [red_len]; omega
      have e3 : PV.tup [.str z, .int one, .tup (ints' (if gcds ws = 0 then ws else ws.map fun w => w / (gcds ws : Int)))] = x.pv := by subst hx; rfl
      rw [e3]
      have g6 : Gr [rp] t3 (t3.set rp (.lst (rs.map Row.pv ++ [x.pv]))) := .set (by simp)
      refine ⟨rs ++ [x], most / cnt, _, _, _, rfl, hmost, hmost2, by rw [List.getElem?_set_self (lt_of_some hr3), List.map_append]; rfl, by simp; omega, ?_, ?_, ?_, ?_, ?_, ht3.gr g6 (by simp; omega), g4.trans (((f3.trans f4).mono (by simp)).trans (g6.mono (by simp)))⟩
      · intro r m
        rcases List.mem_append.mp m with m | m
        · exact hok r m
        · rw [List.mem_singleton.mp m]; exact xo
      · rw [List.map_append, List.nodup_append]
        refine ⟨hnd, by simp, fun a ha b hb => ?_⟩
        have : b = z := by simpa [xn] using hb
        subst this
        exact fun e => z2 (e ▸ ha)
      · intro r m
        rcases List.mem_append.mp m with m | m
        · exact hnm r m
        · rw [List.mem_singleton.mp m, xn]; exact z1
      · intro r m
        rcases List.mem_append.mp m with m | m
        · exact how r m
        · rw [List.mem_singleton.mp m, xow]; exact h1
      · intro r m
        rcases List.mem_append.mp m with m | m
        · exact hw3 r m
        · rw [List.mem_singleton.mp m]; exact xw
    · rintro e s ⟨rs, most, a, b, c, rfl, hm1, hm2, hr, hlen, hok, hnd, hnm, how, hw3, hsr, g4⟩
      exact ⟨rs, most, a, b, c, rfl, hr, by rw [List.length_map] at hlen; omega, hok, hnd, hnm, how, hw3, hsr, g4⟩
  rintro e s ⟨rs, most, a, b, c, rfl, hr, hlen, hok, hnd, hnm, how, hw3, hsr, g4⟩
  rw [ss_ret, sat_args, sat_cons, sat_args, sat_cons, sat_var rfl, sat_nil, sat_one]
  refine sorted_ok (b := false) (xs := rs.map Row.pv) (by unfold seqOf; simp only [hr]) (by rw [List.length_map]; omega) (fun v m => ?_) ?_
  · obtain ⟨r, mr, rfl⟩ := List.mem_map.mp m
    exact (hok r mr).g
  rw [sort_rows, sat_nil, sat_one, o_tupL]
  have pm := sort_perm rs
  refine k _ s ⟨fun r m => hok r (pm.mem_iff.mp m), ?_, sort_pair rs, fun r m => hnm r (pm.mem_iff.mp m), fun r m => how r (pm.mem_iff.mp m), fun r m => hw3 r (pm.mem_iff.mp m)⟩ (by rw [pm.length_eq]; exact hlen) hsr ?_
  · exact ((pm.map (·.n)).nodup_iff).mpr hnd
  · refine Gr.cut (L := [l, rp]) (L' := [l]) ((g0.mono (by simp)).trans g4) ?_
    intro j hj hlt'
    simp only [List.mem_cons, List.not_mem_nil, or_false] at hj ⊢
    omega
theorem outcomes_ok {ns : List Int} {l : Nat} {st : Store} {Q : PV → Store → Prop} (hs : SrcAt st l)
    (k : ∀ us s, us ≠ [] → us.length ≤ 10 → (∀ u ∈ us, u.length ≤ 6) → s[st.length]? = some (.lst (us.map PV.str)) → SrcAt s l → Gr [l] st s → Q (.loc st.length) s) : Sat (m_law_outcome_names [scr ns, .loc l, .int 2, .int 4] st) Q := by
  have hl := hs.lt
  refine sat_body ?_
  unfold f_law_outcome_names
  simp only [List.map_cons, List.map_nil, List.length_cons, List.length_nil, Nat.reduceAdd, Nat.reduceSub, List.reduceReplicate, List.cons_append, List.nil_append]
  rw [ss_seq, ss_set, sat_args, sat_nil, sat_loc]
  refine ⟨sl0, ?_⟩
  have s0 : SrcAt (st ++ [.lst []]) l := hs.gr (L := []) .app (by simp)
  have g0 : Gr [l] st (st ++ [.lst []]) := .app
  have r0 : (st ++ [.lst []])[st.length]? = some (.lst []) := by simp
  generalize st ++ [PO.lst []] = st0 at *
  generalize hop : st.length = op at *
  refine seq_mid (fun e s => ∃ (us : List Str) (a : Option PV), e = ([some (scr ns), some (PV.loc l), some (PV.int 2), some (PV.int 4), some (PV.loc op), a] : PEnv) ∧ s[op]? = some (.lst (us.map PV.str)) ∧ us ≠ [] ∧ us.length ≤ 10 ∧ (∀ u ∈ us, u.length ≤ 6) ∧ SrcAt s l ∧ Gr [l, op] st0 s) ?_ ?_
  · simp only [sat_ok, sat_bind, sat_v, sat_c, sat_bin, sat_un, sat_test, sat_truth, sat_and, sat_or, sat_not, sat_yes, sat_andv, sat_notv, sat_chain, sat_nil, sat_cons, sat_args, sat_call, sat_callX, sat_meth, sat_one, sat_oNone, sat_oSome, sat_sl, sat_tup, sat_lst, sat_loc, ss_nil, ss_seq, ss_set, ss_expr, ss_ret, ss_retN, ss_if, ss_tg, ss_par, ss_sub, ss_for, sat_comp, setTg, setTgs, wipeP, sizeLine_eq, List.map_cons, List.map_nil, List.length_cons, List.length_nil, List.cons_append, List.nil_append, List.set_cons_zero, List.set_cons_succ, List.getElem?_cons_zero, List.getElem?_cons_succ, Nat.reduceAdd, Nat.reduceSub, Nat.reduceLeDiff, List.reduceReplicate, Option.some.injEq, exists_eq_left', true_and, and_true, Nat.zero_add, o_addI, o_addS, o_addT, o_addL, o_subI, o_mulI, o_fdivI, o_modI, o_powI, o_negI, o_eqI, o_neI, o_eqS, o_neS, o_ltI, o_gtI, o_leI, o_geI, o_ltS, o_geS, o_inS, o_notInS, o_isN, o_isNotN, o_isT, o_isNotT, o_isS, o_isNotS, o_int, o_intB, o_abs, o_str, o_lenT, o_lenL, o_lenF, o_lenS, o_ixT, o_ixL, o_ixF, ixW_0, ixW_1, ixW_2, o_isStr, o_tupL, o_tupT, o_listT, o_listL, o_listLocT, o_gcd, o_bits, o_finF, o_finT, sat_iVal, sat_iEnum, sat_iRange1, sat_iRange2, o_itT, o_itL, o_itF, o_itS, o_enT, o_rng]
    refine draw' s0 (by decide) (by decide) fun r s1 c0 c1 hs1 g1 => ?_
    simp only [o_addI, o_addS, o_addT, o_addL, o_subI, o_mulI, o_fdivI, o_modI, o_powI, o_negI, o_eqI, o_neI, o_eqS, o_neS, o_ltI, o_gtI, o_leI, o_geI, o_ltS, o_geS, o_inS, o_notInS, o_isN, o_isNotN, o_isT, o_isNotT, o_isS, o_isNotS, o_int, o_intB, o_abs, o_str, o_lenT, o_lenL, o_lenF, o_lenS, o_ixT, o_ixL, o_ixF, ixW_0, ixW_1, ixW_2, o_isStr, o_tupL, o_tupT, o_listT, o_listL, o_listLocT, o_gcd, o_bits, o_finF, o_finT, sat_iVal, sat_iEnum, sat_iRange1, sat_iRange2, o_itT, o_itL, o_itF, o_itS, o_enT, o_rng]
    refine ⟨⟨by omega, by omega⟩, ?_⟩
    refine for_invN (k := 0) (fun i e s => ∃ (us : List Str) (a : Option PV), e = ([some (scr ns), some (PV.loc l), some (PV.int 2), some (PV.int 4), some (PV.loc op), a] : PEnv) ∧ s[op]? = some (.lst (us.map PV.str)) ∧ us.length = i ∧ (∀ u ∈ us, u.length ≤ 6) ∧ SrcAt s l ∧ Gr [l, op] st0 s)
      ⟨[], none, rfl, g1.at' r0 (by simp; omega), rfl, nofun, hs1, g1.mono (by simp)⟩ ?_ ?_
    · rintro i v e s hv ⟨us, a, rfl, hr, hlen, hus, hsr, g4⟩
      obtain ⟨hi, rfl⟩ := rngs_get hv
      rw [Nat.zero_add] at hlen ⊢
      refine ⟨_, rfl, ?_⟩
      rw [ss_expr, sat_meth, sat_var rfl]
      refine ⟨o_isL hr, ?_⟩
      rw [sat_cons, sat_call, sat_cons, sat_var rfl, sat_cons, sat_var rfl, sat_cons, sat_var rfl, sat_nil]
      refine ⟨rfl, name' hsr (Use.at' (n := 900) hr (by omega) (by omega)) (by decide) fun z t z1 z2 ht f => ?_⟩
      have hr2 := f.at' hr (show op ∉ [l] by simp; omega)
      rw [sat_nil, o_app hr2]
      refine ⟨by rw [sizeLine_eq, List.length_map]; omega, ?_⟩
      have g6 : Gr [op] t (t.set op (.lst (us.map PV.str ++ [.str z]))) := .set (by simp)
      refine ⟨us ++ [z], _, rfl, by rw [List.getElem?_set_self (lt_of_some hr2), List.map_append]; rfl, by simp; omega, fun u m => ?_, ht.gr g6 (by simp; omega), g4.trans ((f.mono (by simp)).trans (g6.mono (by simp)))⟩
      rcases List.mem_append.mp m with m | m
      · exact hus u m
      · rw [List.mem_singleton.mp m]; exact z1
    · rintro e s ⟨us, a, rfl, hr, hlen, hus, hsr, g4⟩
      rw [rngs_len] at hlen
      exact ⟨us, a, rfl, hr, by intro z; subst z; simp at hlen; omega, by omega, hus, hsr, g4⟩
  rintro e s ⟨us, a, rfl, hr, hne, hlen, hus, hsr, g4⟩
  rw [ss_ret, sat_var rfl]
  refine k us s hne hlen hus hr hsr ?_
  refine Gr.cut (L := [l, op]) (L' := [l]) ((g0.mono (by simp)).trans g4) ?_
  intro j hj hlt'
  simp only [List.mem_cons, List.not_mem_nil, or_false] at hj ⊢
  omega
end PL
/-! PL, part QC: drawn trees. -/
namespace PL
open PySem PySem.Spec PyProof.Rows L2
/-- a tree over rows: each set at most once on a way -/
inductive Grow : List Row → T → Prop
  | leaf {free : List Row} {z : Str} : z.length ≤ 60 → Grow free (.leaf z)
  | node {free : List Row} {r : Row} {cs : List T} : r ∈ free → cs.length = r.ws.length → (∀ x ∈ cs, Grow (free.filter fun q => !decide (q.n = r.n)) x) → Grow free (.node r.n cs)
def Room (st : Store) (m : Nat) : Prop := ∃ r : Int, st[m]? = some (.lst [.int r])
theorem Room.gr {L : List Nat} {st s : Store} {m : Nat} (h : Room st m) (g : Gr L st s) (n : m ∉ L) : Room s m := let ⟨r, e⟩ := h; ⟨r, g.at' e n⟩
theorem ixN1_0 : ixN 1 0 = some 0 := rfl
theorem tree_ok {ns : List Int} {l op m : Nat} {us : List Str} (hu0 : us ≠ []) (hul : us.length ≤ 1000) (hus : ∀ u ∈ us, u.length ≤ 40) (nlo : l ≠ op) (nlm : l ≠ m) (nom : op ≠ m) : ∀ (n : Nat) (rs : List Row) (wish : PV) (st : Store) (Q : PV → Store → Prop),
    rs.length < n → rs.length ≤ 100 → (∀ r ∈ rs, r.Ok) → (wish = .non ∨ ∃ r ∈ rs, wish = r.pv) → SrcAt st l → Room st m → st[op]? = some (.lst (us.map .str)) →
    (∀ x s, Grow rs x → (wish ≠ .non → (∀ r0 : Int, st[m]? = some (.lst [.int r0]) → 0 < r0) → ∃ n cs, x = .node n cs) → SrcAt s l → Room s m → Gr [l, m] st s → Q x.pv s) →
    Sat (fuelF 14 f_law_tree n [scr ns,   .loc l, .lst (rs.map Row.pv), .loc op, .loc m, wish] st) Q
  | 0, rs, wish, st, Q, hn, _, _, _, _, _, _, _ => absurd hn (Nat.not_lt_zero _)
  | n + 1, rs, wish, st, Q, hn, hn2, hg, hw, hs, hm, ho, k => by
    obtain ⟨r0, hr0⟩ := hm
    have hml := lt_of_some hr0
    obtain ⟨wb, hwb, hwn, hwf⟩ : ∃ wb : Bool, (∀ (st : Store) (Q : PV → Store → Prop), Sat (pIs wish .non st) Q = Q (.bl wb) st ∧ Sat (pIsNot wish .non st) Q = Q (.bl (!wb)) st) ∧ (wb = false → ∃ r ∈ rs, wish = r.pv) ∧ (wish ≠ .non → wb = false) := by
      rcases hw with rfl | ⟨rw', hw, rfl⟩
      · exact ⟨true, fun st Q => ⟨o_isN, o_isNotN⟩, nofun, fun h => absurd rfl h⟩
      · exact ⟨false, fun st Q => ⟨row_is, row_isNot⟩, fun _ => ⟨rw', hw, rfl⟩, fun _ => rfl⟩
    refine sat_body ?_
    unfold f_law_tree
    simp only [List.map_cons, List.map_nil, List.length_cons, List.length_nil, Nat.reduceAdd, Nat.reduceSub, List.reduceReplicate, List.cons_append, List.nil_append]
    -- room
    refine seq_mid (fun e s => e = ([some (scr ns), some (PV.loc l), some (PV.lst (rs.map Row.pv)), some (PV.loc op), some (PV.loc m), some wish, none, none, none, none, none, none, none, none] : PEnv) ∧ SrcAt s l ∧ s[m]? = some (.lst [.int (r0 - 1)]) ∧ Gr [l, m] st s) ?_ ?_
    · simp only [sat_ok, sat_bind, sat_v, sat_c, sat_bin, sat_un, sat_test, sat_truth, sat_and, sat_or, sat_not, sat_yes, sat_andv, sat_notv, sat_chain, sat_nil, sat_cons, sat_args, sat_call, sat_callX, sat_meth, sat_one, sat_oNone, sat_oSome, sat_sl, sat_tup, sat_lst, sat_loc, ss_nil, ss_seq, ss_set, ss_expr, ss_ret, ss_retN, ss_if, ss_tg, ss_par, ss_sub, ss_for, sat_comp, setTg, setTgs, wipeP, sizeLine_eq, List.map_cons, List.map_nil, List.length_cons, List.length_nil, List.cons_append, List.nil_append, List.set_cons_zero, List.set_cons_succ, List.getElem?_cons_zero, List.getElem?_cons_succ, Nat.reduceAdd, Nat.reduceSub, Nat.reduceLeDiff, List.reduceReplicate, Option.some.injEq, exists_eq_left', true_and, and_true, Nat.zero_add, o_addI, o_addS, o_addT, o_addL, o_subI, o_mulI, o_fdivI, o_modI, o_powI, o_negI, o_eqI, o_neI, o_eqS, o_neS, o_ltI, o_gtI, o_leI, o_geI, o_ltS, o_geS, o_inS, o_notInS, o_isN, o_isNotN, o_isT, o_isNotT, o_isS, o_isNotS, o_int, o_intB, o_abs, o_str, o_lenT, o_lenL, o_lenF, o_lenS, o_ixT, o_ixL, o_ixF, ixW_0, ixW_1, ixW_2, o_isStr, o_tupL, o_tupT, o_listT, o_listL, o_listLocT, o_gcd, o_bits, o_finF, o_finT, sat_iVal, sat_iEnum, sat_iRange1, sat_iRange2, o_itT, o_itL, o_itF, o_itS, o_enT, o_rng, o_ixP hr0, o_set hr0, ixN1_0]
      have g : Gr [m] st (st.set m (.lst [.int (r0 - 1)])) := .set (by simp)
      exact ⟨hs.gr g (by simpa using nlm), List.getElem?_set_self hml, g.mono (by simp)⟩
    rintro e s1 ⟨rfl, hs1, hm1, g1⟩
    refine seq_mid (fun e s => ∃ b : Bool, e = ([some (scr ns), some (PV.loc l), some (PV.lst (rs.map Row.pv)), some (PV.loc op), some (PV.loc m), some wish, some (PV.bl b), none, none, none, none, none, none, none] : PEnv) ∧ (b = true → wb = true) ∧ SrcAt s l ∧ s[m]? = some (.lst [.int (r0 - 1)]) ∧ Gr [l, m] st s) ?_ ?_
    · simp only [sat_ok, sat_bind, sat_v, sat_c, sat_bin, sat_un, sat_test, sat_truth, sat_and, sat_or, sat_not, sat_yes, sat_andv, sat_notv, sat_chain, sat_nil, sat_cons, sat_args, sat_call, sat_callX, sat_meth, sat_one, sat_oNone, sat_oSome, sat_sl, sat_tup, sat_lst, sat_loc, ss_nil, ss_seq, ss_set, ss_expr, ss_ret, ss_retN, ss_if, ss_tg, ss_par, ss_sub, ss_for, sat_comp, setTg, setTgs, wipeP, sizeLine_eq, List.map_cons, List.map_nil, List.length_cons, List.length_nil, List.cons_append, List.nil_append, List.set_cons_zero, List.set_cons_succ, List.getElem?_cons_zero, List.getElem?_cons_succ, Nat.reduceAdd, Nat.reduceSub, Nat.reduceLeDiff, List.reduceReplicate, Option.some.injEq, exists_eq_left', true_and, and_true, Nat.zero_add]
      refine draw' hs1 (by decide) (by decide) fun r s _ _ hs2 g2 => ?_
      have hm2 := g2.at' hm1 (by simpa using Ne.symm nlm)
      have g12 := g1.trans (g2.mono (L' := [l, m]) (by simp))
      simp only [o_addI, o_addS, o_addT, o_addL, o_subI, o_mulI, o_fdivI, o_modI, o_powI, o_negI, o_eqI, o_neI, o_eqS, o_neS, o_ltI, o_gtI, o_leI, o_geI, o_ltS, o_geS, o_inS, o_notInS, o_isN, o_isNotN, o_isT, o_isNotT, o_isS, o_isNotS, o_int, o_intB, o_abs, o_str, o_lenT, o_lenL, o_lenF, o_lenS, o_ixT, o_ixL, o_ixF, ixW_0, ixW_1, ixW_2, o_isStr, o_tupL, o_tupT, o_listT, o_listL, o_listLocT, o_gcd, o_bits, o_finF, o_finT, sat_iVal, sat_iEnum, sat_iRange1, sat_iRange2, o_itT, o_itL, o_itF, o_itS, o_enT, o_rng]
      cases hd : decide (r = 0) with
      | true => simp only [(hwb _ _).1]; exact ⟨_, rfl, id, hs2, hm2, g12⟩
      | false => exact ⟨false, rfl, nofun, hs2, hm2, g12⟩
    rintro e s2 ⟨b, rfl, hbw, hs2, hr2, g2⟩
    generalize hr2e : r0 - 1 = r2 at hr2
    have ho2 := g2.at' ho (by simp; exact ⟨Ne.symm nlo, nom⟩)
    -- an outcome
    refine seq_mid (fun e s => e = ([some (scr ns), some (PV.loc l), some (PV.lst (rs.map Row.pv)), some (PV.loc op), some (PV.loc m), some wish, some (PV.bl b), none, none, none, none, none, none, none] : PEnv) ∧ s = s2 ∧ rs ≠ []) ?_ ?_
    · have out : (wish ≠ .non → 0 < r0 → False) → SatS (sRet (eBin pIx (eVar 3) (eCall 3 m_law_draw (aCons (eVar 0) (aCons (eVar 1) (aCons (eArgs (one pLen) (aCons (eVar 3) aNil)) aNil))))) ([some (scr ns), some (PV.loc l), some (PV.lst (rs.map Row.pv)), some (PV.loc op), some (PV.loc m), some wish, some (PV.bl b), none, none, none, none, none, none, none] : PEnv) s2) (fun e s => e = ([some (scr ns), some (PV.loc l), some (PV.lst (rs.map Row.pv)), some (PV.loc op), some (PV.loc m), some wish, some (PV.bl b), none, none, none, none, none, none, none] : PEnv) ∧ s = s2 ∧ rs ≠ []) Q := by
        intro hx
        simp only [sat_ok, sat_bind, sat_v, sat_c, sat_bin, sat_un, sat_test, sat_truth, sat_and, sat_or, sat_not, sat_yes, sat_andv, sat_notv, sat_chain, sat_nil, sat_cons, sat_args, sat_call, sat_callX, sat_meth, sat_one, sat_oNone, sat_oSome, sat_sl, sat_tup, sat_lst, sat_loc, ss_nil, ss_seq, ss_set, ss_expr, ss_ret, ss_retN, ss_if, ss_tg, ss_par, ss_sub, ss_for, sat_comp, setTg, setTgs, wipeP, sizeLine_eq, List.map_cons, List.map_nil, List.length_cons, List.length_nil, List.cons_append, List.nil_append, List.set_cons_zero, List.set_cons_succ, List.getElem?_cons_zero, List.getElem?_cons_succ, Nat.reduceAdd, Nat.reduceSub, Nat.reduceLeDiff, List.reduceReplicate, Option.some.injEq, exists_eq_left', true_and, and_true, Nat.zero_add, o_addI, o_addS, o_addT, o_addL, o_subI, o_mulI, o_fdivI, o_modI, o_powI, o_negI, o_eqI, o_neI, o_eqS, o_neS, o_ltI, o_gtI, o_leI, o_geI, o_ltS, o_geS, o_inS, o_notInS, o_isN, o_isNotN, o_isT, o_isNotT, o_isS, o_isNotS, o_int, o_intB, o_abs, o_str, o_lenT, o_lenL, o_lenF, o_lenS, o_ixT, o_ixL, o_ixF, ixW_0, ixW_1, ixW_2, o_isStr, o_tupL, o_tupT, o_listT, o_listL, o_listLocT, o_gcd, o_bits, o_finF, o_finT, sat_iVal, sat_iEnum, sat_iRange1, sat_iRange2, o_itT, o_itL, o_itF, o_itS, o_enT, o_rng, o_lenP ho2]
        refine draw' hs2 (by have := List.length_pos_iff.mpr hu0; rw [List.length_map]; omega) (log2_k (n := 1000) (by omega) (by rw [List.length_map]; omega)) fun r s c0 c1 hs3 g3 => ?_
        rw [o_ixP (g3.at' ho2 (by simpa using Ne.symm nlo))]
        refine draw_len c0 c1 fun y hy => ?_
        obtain ⟨u, mu, rfl⟩ := List.mem_map.mp hy
        exact k _ _ (.leaf (by have := hus u mu; omega)) (fun h1 h2 => (hx h1 (h2 r0 hr0)).elim) hs3 (Room.gr ⟨r2, hr2⟩ g3 (by simpa using Ne.symm nlm)) (g2.trans (g3.mono (by simp)))
      rw [ss_if]
      simp only [sat_ok, sat_bind, sat_v, sat_c, sat_bin, sat_un, sat_test, sat_truth, sat_and, sat_or, sat_not, sat_yes, sat_andv, sat_notv, sat_chain, sat_nil, sat_cons, sat_args, sat_call, sat_callX, sat_meth, sat_one, sat_oNone, sat_oSome, sat_sl, sat_tup, sat_lst, sat_loc, ss_nil, ss_seq, ss_set, ss_expr, ss_ret, ss_retN, ss_if, ss_tg, ss_par, ss_sub, ss_for, sat_comp, setTg, setTgs, wipeP, sizeLine_eq, List.map_cons, List.map_nil, List.length_cons, List.length_nil, List.cons_append, List.nil_append, List.set_cons_zero, List.set_cons_succ, List.getElem?_cons_zero, List.getElem?_cons_succ, Nat.reduceAdd, Nat.reduceSub, Nat.reduceLeDiff, List.reduceReplicate, Option.some.injEq, exists_eq_left', true_and, and_true, Nat.zero_add, o_addI, o_addS, o_addT, o_addL, o_subI, o_mulI, o_fdivI, o_modI, o_powI, o_negI, o_eqI, o_neI, o_eqS, o_neS, o_ltI, o_gtI, o_leI, o_geI, o_ltS, o_geS, o_inS, o_notInS, o_isN, o_isNotN, o_isT, o_isNotT, o_isS, o_isNotS, o_int, o_intB, o_abs, o_str, o_lenT, o_lenL, o_lenF, o_lenS, o_ixT, o_ixL, o_ixF, ixW_0, ixW_1, ixW_2, o_isStr, o_tupL, o_tupT, o_listT, o_listL, o_listLocT, o_gcd, o_bits, o_finF, o_finT, sat_iVal, sat_iEnum, sat_iRange1, sat_iRange2, o_itT, o_itL, o_itF, o_itS, o_enT, o_rng, Int.reduceLE, Int.reduceLT, nabs, Nat.reducePow, Nat.reduceLT, Int.reduceToNat, Int.reducePow, true_and, and_true, or_true, true_or, and_self, if_true, if_false, Bool.false_eq_true, decide_true, decide_false, not_false_eq_true, List.length_map, o_ixP hr2, o_lenP ho2]
      simp only [sat_ok, sat_bind, sat_v, sat_c, sat_bin, sat_un, sat_test, sat_truth, sat_and, sat_or, sat_not, sat_yes, sat_andv, sat_notv, sat_chain, sat_nil, sat_cons, sat_args, sat_call, sat_callX, sat_meth, sat_one, sat_oNone, sat_oSome, sat_sl, sat_tup, sat_lst, sat_loc, ss_nil, ss_seq, ss_set, ss_expr, ss_ret, ss_retN, ss_if, ss_tg, ss_par, ss_sub, ss_for, sat_comp, setTg, setTgs, wipeP, sizeLine_eq, List.map_cons, List.map_nil, List.length_cons, List.length_nil, List.cons_append, List.nil_append, List.set_cons_zero, List.set_cons_succ, List.getElem?_cons_zero, List.getElem?_cons_succ, Nat.reduceAdd, Nat.reduceSub, Nat.reduceLeDiff, List.reduceReplicate, Option.some.injEq, exists_eq_left', true_and, and_true, Nat.zero_add, o_addI, o_addS, o_addT, o_addL, o_subI, o_mulI, o_fdivI, o_modI, o_powI, o_negI, o_eqI, o_neI, o_eqS, o_neS, o_ltI, o_gtI, o_leI, o_geI, o_ltS, o_geS, o_inS, o_notInS, o_isN, o_isNotN, o_isT, o_isNotT, o_isS, o_isNotS, o_int, o_intB, o_abs, o_str, o_lenT, o_lenL, o_lenF, o_lenS, o_ixT, o_ixL, o_ixF, ixW_0, ixW_1, ixW_2, o_isStr, o_tupL, o_tupT, o_listT, o_listL, o_listLocT, o_gcd, o_bits, o_finF, o_finT, sat_iVal, sat_iEnum, sat_iRange1, sat_iRange2, o_itT, o_itL, o_itF, o_itS, o_enT, o_rng, Int.reduceLE, Int.reduceLT, nabs, Nat.reducePow, Nat.reduceLT, Int.reduceToNat, Int.reducePow, true_and, and_true, or_true, true_or, and_self, if_true, if_false, Bool.false_eq_true, decide_true, decide_false, not_false_eq_true, List.length_map, o_lenP ho2] at out
      split
      · rename_i h0
        refine out fun h1 _ => ?_
        obtain ⟨r', m', _⟩ := hwn (hwf h1)
        have := List.length_pos_of_mem m'
        simp at h0
        subst h0
        cases m'
      · rename_i h0
        have hne : rs ≠ [] := by
          intro z
          subst z
          simp at h0
        split
        · rename_i h3
          refine out fun h1 h2 => ?_
          simp at h3
          omega
        · split
          · rename_i h4
            refine out fun h1 h2 => ?_
            have := hwf h1
            rw [hbw (by simpa using h4)] at this
            cases this
          · first | exact hne | exact ⟨rfl, rfl, hne⟩
    rintro e s ⟨rfl, rfl, hne⟩
    have hlen : 0 < rs.length := List.length_pos_iff.mpr hne
    -- the row
    refine seq_mid (fun e t => ∃ row ∈ rs, e = ([some (scr ns), some (PV.loc l), some (PV.lst (rs.map Row.pv)), some (PV.loc op), some (PV.loc m), some wish, some (PV.bl b), some row.pv, none, none, none, none, none, none] : PEnv) ∧ SrcAt t l ∧ Gr [l] s t) ?_ ?_
    · simp only [sat_ok, sat_bind, sat_v, sat_c, sat_bin, sat_un, sat_test, sat_truth, sat_and, sat_or, sat_not, sat_yes, sat_andv, sat_notv, sat_chain, sat_nil, sat_cons, sat_args, sat_call, sat_callX, sat_meth, sat_one, sat_oNone, sat_oSome, sat_sl, sat_tup, sat_lst, sat_loc, ss_nil, ss_seq, ss_set, ss_expr, ss_ret, ss_retN, ss_if, ss_tg, ss_par, ss_sub, ss_for, sat_comp, setTg, setTgs, wipeP, sizeLine_eq, List.map_cons, List.map_nil, List.length_cons, List.length_nil, List.cons_append, List.nil_append, List.set_cons_zero, List.set_cons_succ, List.getElem?_cons_zero, List.getElem?_cons_succ, Nat.reduceAdd, Nat.reduceSub, Nat.reduceLeDiff, List.reduceReplicate, Option.some.injEq, exists_eq_left', true_and, and_true, Nat.zero_add, o_addI, o_addS, o_addT, o_addL, o_subI, o_mulI, o_fdivI, o_modI, o_powI, o_negI, o_eqI, o_neI, o_eqS, o_neS, o_ltI, o_gtI, o_leI, o_geI, o_ltS, o_geS, o_inS, o_notInS, o_isN, o_isNotN, o_isT, o_isNotT, o_isS, o_isNotS, o_int, o_intB, o_abs, o_str, o_lenT, o_lenL, o_lenF, o_lenS, o_ixT, o_ixL, o_ixF, ixW_0, ixW_1, ixW_2, o_isStr, o_tupL, o_tupT, o_listT, o_listL, o_listLocT, o_gcd, o_bits, o_finF, o_finT, sat_iVal, sat_iEnum, sat_iRange1, sat_iRange2, o_itT, o_itL, o_itF, o_itS, o_enT, o_rng]
      refine draw' hs2 (by rw [List.length_map]; omega) (log2_k (n := 100) (by omega) (by rw [List.length_map]; omega)) fun r t c0 c1 ht f => ?_
      simp only [o_addI, o_addS, o_addT, o_addL, o_subI, o_mulI, o_fdivI, o_modI, o_powI, o_negI, o_eqI, o_neI, o_eqS, o_neS, o_ltI, o_gtI, o_leI, o_geI, o_ltS, o_geS, o_inS, o_notInS, o_isN, o_isNotN, o_isT, o_isNotT, o_isS, o_isNotS, o_int, o_intB, o_abs, o_str, o_lenT, o_lenL, o_lenF, o_lenS, o_ixT, o_ixL, o_ixF, ixW_0, ixW_1, ixW_2, o_isStr, o_tupL, o_tupT, o_listT, o_listL, o_listLocT, o_gcd, o_bits, o_finF, o_finT, sat_iVal, sat_iEnum, sat_iRange1, sat_iRange2, o_itT, o_itL, o_itF, o_itS, o_enT, o_rng]
      refine draw_len c0 c1 fun y hy => ?_
      obtain ⟨row, mr, rfl⟩ := List.mem_map.mp hy
      exact ⟨row, mr, rfl, ht, f⟩
    rintro e t1 ⟨row, hrow, rfl, ht1, f1⟩
    refine seq_mid (fun e t => ∃ row ∈ rs, e = ([some (scr ns), some (PV.loc l), some (PV.lst (rs.map Row.pv)), some (PV.loc op), some (PV.loc m), some wish, some (PV.bl b), some row.pv, none, none, none, none, none, none] : PEnv) ∧ t = t1) ?_ ?_
    · simp only [sat_ok, sat_bind, sat_v, sat_c, sat_bin, sat_un, sat_test, sat_truth, sat_and, sat_or, sat_not, sat_yes, sat_andv, sat_notv, sat_chain, sat_nil, sat_cons, sat_args, sat_call, sat_callX, sat_meth, sat_one, sat_oNone, sat_oSome, sat_sl, sat_tup, sat_lst, sat_loc, ss_nil, ss_seq, ss_set, ss_expr, ss_ret, ss_retN, ss_if, ss_tg, ss_par, ss_sub, ss_for, sat_comp, setTg, setTgs, wipeP, sizeLine_eq, List.map_cons, List.map_nil, List.length_cons, List.length_nil, List.cons_append, List.nil_append, List.set_cons_zero, List.set_cons_succ, List.getElem?_cons_zero, List.getElem?_cons_succ, Nat.reduceAdd, Nat.reduceSub, Nat.reduceLeDiff, List.reduceReplicate, Option.some.injEq, exists_eq_left', true_and, and_true, Nat.zero_add, (hwb _ _).2]
      split
      · rename_i h
        obtain ⟨r', m', rfl⟩ := hwn (by simpa using h)
        exact ⟨r', m', by first | rfl | exact ⟨rfl, rfl⟩⟩
      · exact ⟨row, hrow, by first | rfl | exact ⟨rfl, rfl⟩⟩
    rintro e t1 ⟨row, hrow, rfl, rfl⟩
    have hgr := hg row hrow
    -- the rest
    refine seq_mid (fun e t => ∃ rest : List Row, e = ([some (scr ns), some (PV.loc l), some (PV.lst (rs.map Row.pv)), some (PV.loc op), some (PV.loc m), some wish, some (PV.bl b), some row.pv, some (PV.lst (rest.map Row.pv)), none, none, none, none, none] : PEnv) ∧ rest.length < rs.length ∧ rest = rs.filter (fun q => !decide (q.n = row.n)) ∧ t = t1) ?_ ?_
    · simp only [sat_ok, sat_bind, sat_v, sat_c, sat_bin, sat_un, sat_test, sat_truth, sat_and, sat_or, sat_not, sat_yes, sat_andv, sat_notv, sat_chain, sat_nil, sat_cons, sat_args, sat_call, sat_callX, sat_meth, sat_one, sat_oNone, sat_oSome, sat_sl, sat_tup, sat_lst, sat_loc, ss_nil, ss_seq, ss_set, ss_expr, ss_ret, ss_retN, ss_if, ss_tg, ss_par, ss_sub, ss_for, sat_comp, setTg, setTgs, wipeP, sizeLine_eq, List.map_cons, List.map_nil, List.length_cons, List.length_nil, List.cons_append, List.nil_append, List.set_cons_zero, List.set_cons_succ, List.getElem?_cons_zero, List.getElem?_cons_succ, Nat.reduceAdd, Nat.reduceSub, Nat.reduceLeDiff, List.reduceReplicate, Option.some.injEq, exists_eq_left', true_and, and_true, Nat.zero_add, o_addI, o_addS, o_addT, o_addL, o_subI, o_mulI, o_fdivI, o_modI, o_powI, o_negI, o_eqI, o_neI, o_eqS, o_neS, o_ltI, o_gtI, o_leI, o_geI, o_ltS, o_geS, o_inS, o_notInS, o_isN, o_isNotN, o_isT, o_isNotT, o_isS, o_isNotS, o_int, o_intB, o_abs, o_str, o_lenT, o_lenL, o_lenF, o_lenS, o_ixT, o_ixL, o_ixF, ixW_0, ixW_1, ixW_2, o_isStr, o_tupL, o_tupT, o_listT, o_listL, o_listLocT, o_gcd, o_bits, o_finF, o_finT, sat_iVal, sat_iEnum, sat_iRange1, sat_iRange2, o_itT, o_itL, o_itF, o_itS, o_enT, o_rng]
      refine comp_filt (as := rs) (f := Row.pv) (g := Row.pv) (p := fun q => !decide (q.n = row.n)) (by simp [wipeP]) (by omega) (fun x hx => t_ok fun Q k => by
        rw [sat_bin, sat_bin, sat_var (v := x.pv) (by simp [wipeP]), sat_c, row_ix0, sat_bin, sat_var (v := row.pv) (by simp [wipeP]), sat_c, row_ix0, o_neS]; exact k) (fun x hx _ => det fun Q k => by
        rw [sat_var (v := x.pv) (by simp [wipeP])]; exact k) ?_ _ trivial
      simp only [o_addI, o_addS, o_addT, o_addL, o_subI, o_mulI, o_fdivI, o_modI, o_powI, o_negI, o_eqI, o_neI, o_eqS, o_neS, o_ltI, o_gtI, o_leI, o_geI, o_ltS, o_geS, o_inS, o_notInS, o_isN, o_isNotN, o_isT, o_isNotT, o_isS, o_isNotS, o_int, o_intB, o_abs, o_str, o_lenT, o_lenL, o_lenF, o_lenS, o_ixT, o_ixL, o_ixF, ixW_0, ixW_1, ixW_2, o_isStr, o_tupL, o_tupT, o_listT, o_listL, o_listLocT, o_gcd, o_bits, o_finF, o_finT, sat_iVal, sat_iEnum, sat_iRange1, sat_iRange2, o_itT, o_itL, o_itF, o_itS, o_enT, o_rng]
      refine ⟨_, rfl, ?_, rfl, trivial⟩
      have : ∃ x ∈ rs, ¬ (!decide (x.n = row.n)) = true := ⟨row, hrow, by simp⟩
      exact List.length_filter_lt_length_iff_exists.mpr this
    rintro e t ⟨rest, rfl, hlt, hrest, rfl⟩
    have hgrest : ∀ x ∈ rest, x.Ok := fun x m => by subst hrest; exact hg x (List.mem_filter.mp m).1
    -- style, shared
    refine seq_mid (fun e t2 => ∃ sty : Int, e = ([some (scr ns), some (PV.loc l), some (PV.lst (rs.map Row.pv)), some (PV.loc op), some (PV.loc m), some wish, some (PV.bl b), some row.pv, some (PV.lst (rest.map Row.pv)), some (PV.int sty), none, none, none, none] : PEnv) ∧ SrcAt t2 l ∧ Gr [l] s t2) ?_ ?_
    · simp only [sat_ok, sat_bind, sat_v, sat_c, sat_bin, sat_un, sat_test, sat_truth, sat_and, sat_or, sat_not, sat_yes, sat_andv, sat_notv, sat_chain, sat_nil, sat_cons, sat_args, sat_call, sat_callX, sat_meth, sat_one, sat_oNone, sat_oSome, sat_sl, sat_tup, sat_lst, sat_loc, ss_nil, ss_seq, ss_set, ss_expr, ss_ret, ss_retN, ss_if, ss_tg, ss_par, ss_sub, ss_for, sat_comp, setTg, setTgs, wipeP, sizeLine_eq, List.map_cons, List.map_nil, List.length_cons, List.length_nil, List.cons_append, List.nil_append, List.set_cons_zero, List.set_cons_succ, List.getElem?_cons_zero, List.getElem?_cons_succ, Nat.reduceAdd, Nat.reduceSub, Nat.reduceLeDiff, List.reduceReplicate, Option.some.injEq, exists_eq_left', true_and, and_true, Nat.zero_add, o_addI, o_addS, o_addT, o_addL, o_subI, o_mulI, o_fdivI, o_modI, o_powI, o_negI, o_eqI, o_neI, o_eqS, o_neS, o_ltI, o_gtI, o_leI, o_geI, o_ltS, o_geS, o_inS, o_notInS, o_isN, o_isNotN, o_isT, o_isNotT, o_isS, o_isNotS, o_int, o_intB, o_abs, o_str, o_lenT, o_lenL, o_lenF, o_lenS, o_ixT, o_ixL, o_ixF, ixW_0, ixW_1, ixW_2, o_isStr, o_tupL, o_tupT, o_listT, o_listL, o_listLocT, o_gcd, o_bits, o_finF, o_finT, sat_iVal, sat_iEnum, sat_iRange1, sat_iRange2, o_itT, o_itL, o_itF, o_itS, o_enT, o_rng]
      refine draw' ht1 (by decide) (by decide) fun r t2 c0 c1 ht f => ?_
      exact ⟨r, rfl, ht, f1.trans f⟩
    rintro e t2 ⟨sty, rfl, ht2, f2⟩
    refine seq_mid (fun e t3 => e = ([some (scr ns), some (PV.loc l), some (PV.lst (rs.map Row.pv)), some (PV.loc op), some (PV.loc m), some wish, some (PV.bl b), some row.pv, some (PV.lst (rest.map Row.pv)), some (PV.int sty), some PV.non, none, none, none] : PEnv) ∧ t3 = t2) ?_ ?_
    · simp only [sat_ok, sat_bind, sat_v, sat_c, sat_bin, sat_un, sat_test, sat_truth, sat_and, sat_or, sat_not, sat_yes, sat_andv, sat_notv, sat_chain, sat_nil, sat_cons, sat_args, sat_call, sat_callX, sat_meth, sat_one, sat_oNone, sat_oSome, sat_sl, sat_tup, sat_lst, sat_loc, ss_nil, ss_seq, ss_set, ss_expr, ss_ret, ss_retN, ss_if, ss_tg, ss_par, ss_sub, ss_for, sat_comp, setTg, setTgs, wipeP, sizeLine_eq, List.map_cons, List.map_nil, List.length_cons, List.length_nil, List.cons_append, List.nil_append, List.set_cons_zero, List.set_cons_succ, List.getElem?_cons_zero, List.getElem?_cons_succ, Nat.reduceAdd, Nat.reduceSub, Nat.reduceLeDiff, List.reduceReplicate, Option.some.injEq, exists_eq_left', true_and, and_true, Nat.zero_add, o_addI, o_addS, o_addT, o_addL, o_subI, o_mulI, o_fdivI, o_modI, o_powI, o_negI, o_eqI, o_neI, o_eqS, o_neS, o_ltI, o_gtI, o_leI, o_geI, o_ltS, o_geS, o_inS, o_notInS, o_isN, o_isNotN, o_isT, o_isNotT, o_isS, o_isNotS, o_int, o_intB, o_abs, o_str, o_lenT, o_lenL, o_lenF, o_lenS, o_ixT, o_ixL, o_ixF, ixW_0, ixW_1, ixW_2, o_isStr, o_tupL, o_tupT, o_listT, o_listL, o_listLocT, o_gcd, o_bits, o_finF, o_finT, sat_iVal, sat_iEnum, sat_iRange1, sat_iRange2, o_itT, o_itL, o_itF, o_itS, o_enT, o_rng]
    rintro e t2 ⟨rfl, rfl⟩
    refine seq_mid (fun e t3 => ∃ sh : PV, e = ([some (scr ns), some (PV.loc l), some (PV.lst (rs.map Row.pv)), some (PV.loc op), some (PV.loc m), some wish, some (PV.bl b), some row.pv, some (PV.lst (rest.map Row.pv)), some (PV.int sty), some sh, none, none, none] : PEnv) ∧ (sh = .non ∨ ∃ r ∈ rest, sh = r.pv) ∧ SrcAt t3 l ∧ Gr [l] s t3) ?_ ?_
    · simp only [sat_ok, sat_bind, sat_v, sat_c, sat_bin, sat_un, sat_test, sat_truth, sat_and, sat_or, sat_not, sat_yes, sat_andv, sat_notv, sat_chain, sat_nil, sat_cons, sat_args, sat_call, sat_callX, sat_meth, sat_one, sat_oNone, sat_oSome, sat_sl, sat_tup, sat_lst, sat_loc, ss_nil, ss_seq, ss_set, ss_expr, ss_ret, ss_retN, ss_if, ss_tg, ss_par, ss_sub, ss_for, sat_comp, setTg, setTgs, wipeP, sizeLine_eq, List.map_cons, List.map_nil, List.length_cons, List.length_nil, List.cons_append, List.nil_append, List.set_cons_zero, List.set_cons_succ, List.getElem?_cons_zero, List.getElem?_cons_succ, Nat.reduceAdd, Nat.reduceSub, Nat.reduceLeDiff, List.reduceReplicate, Option.some.injEq, exists_eq_left', true_and, and_true, Nat.zero_add, o_addI, o_addS, o_addT, o_addL, o_subI, o_mulI, o_fdivI, o_modI, o_powI, o_negI, o_eqI, o_neI, o_eqS, o_neS, o_ltI, o_gtI, o_leI, o_geI, o_ltS, o_geS, o_inS, o_notInS, o_isN, o_isNotN, o_isT, o_isNotT, o_isS, o_isNotS, o_int, o_intB, o_abs, o_str, o_lenT, o_lenL, o_lenF, o_lenS, o_ixT, o_ixL, o_ixF, ixW_0, ixW_1, ixW_2, o_isStr, o_tupL, o_tupT, o_listT, o_listL, o_listLocT, o_gcd, o_bits, o_finF, o_finT, sat_iVal, sat_iEnum, sat_iRange1, sat_iRange2, o_itT, o_itL, o_itF, o_itS, o_enT, o_rng]
      split
      · split
        · rename_i h
          have h : 0 < (rest.length : Int) := by simpa using h
          refine draw' ht2 (by rw [List.length_map]; exact h) (log2_k (n := 100) (by omega) (by rw [List.length_map]; omega)) fun r t3 c0 c1 ht f => ?_
          simp only [o_addI, o_addS, o_addT, o_addL, o_subI, o_mulI, o_fdivI, o_modI, o_powI, o_negI, o_eqI, o_neI, o_eqS, o_neS, o_ltI, o_gtI, o_leI, o_geI, o_ltS, o_geS, o_inS, o_notInS, o_isN, o_isNotN, o_isT, o_isNotT, o_isS, o_isNotS, o_int, o_intB, o_abs, o_str, o_lenT, o_lenL, o_lenF, o_lenS, o_ixT, o_ixL, o_ixF, ixW_0, ixW_1, ixW_2, o_isStr, o_tupL, o_tupT, o_listT, o_listL, o_listLocT, o_gcd, o_bits, o_finF, o_finT, sat_iVal, sat_iEnum, sat_iRange1, sat_iRange2, o_itT, o_itL, o_itF, o_itS, o_enT, o_rng]
          refine draw_len c0 c1 fun y hy => ?_
          obtain ⟨r', m', rfl⟩ := List.mem_map.mp hy
          exact ⟨_, rfl, .inr ⟨r', m', rfl⟩, ht, f2.trans f⟩
        · exact ⟨.non, rfl, .inl rfl, ht2, f2⟩
      · split
        · rename_i h
          cases h
        · exact ⟨.non, rfl, .inl rfl, ht2, f2⟩
    rintro e t3 ⟨sh, rfl, hsh, ht3, f3⟩
    -- the children
    have hm3 : Room t3 m := Room.gr ⟨r2, hr2⟩ f3 (by simpa using Ne.symm nlm)
    have ho3 := f3.at' ho2 (by simpa using Ne.symm nlo)
    refine seq_mid (fun e t4 => e = ([some (scr ns), some (PV.loc l), some (PV.lst (rs.map Row.pv)), some (PV.loc op), some (PV.loc m), some wish, some (PV.bl b), some row.pv, some (PV.lst (rest.map Row.pv)), some (PV.int sty), some sh, some (PV.loc t3.length), none, none] : PEnv) ∧ t4 = t3 ++ [.lst []]) ?_ ?_
    · simp only [sat_ok, sat_bind, sat_v, sat_c, sat_bin, sat_un, sat_test, sat_truth, sat_and, sat_or, sat_not, sat_yes, sat_andv, sat_notv, sat_chain, sat_nil, sat_cons, sat_args, sat_call, sat_callX, sat_meth, sat_one, sat_oNone, sat_oSome, sat_sl, sat_tup, sat_lst, sat_loc, ss_nil, ss_seq, ss_set, ss_expr, ss_ret, ss_retN, ss_if, ss_tg, ss_par, ss_sub, ss_for, sat_comp, setTg, setTgs, wipeP, sizeLine_eq, List.map_cons, List.map_nil, List.length_cons, List.length_nil, List.cons_append, List.nil_append, List.set_cons_zero, List.set_cons_succ, List.getElem?_cons_zero, List.getElem?_cons_succ, Nat.reduceAdd, Nat.reduceSub, Nat.reduceLeDiff, List.reduceReplicate, Option.some.injEq, exists_eq_left', true_and, and_true, Nat.zero_add, o_addI, o_addS, o_addT, o_addL, o_subI, o_mulI, o_fdivI, o_modI, o_powI, o_negI, o_eqI, o_neI, o_eqS, o_neS, o_ltI, o_gtI, o_leI, o_geI, o_ltS, o_geS, o_inS, o_notInS, o_isN, o_isNotN, o_isT, o_isNotT, o_isS, o_isNotS, o_int, o_intB, o_abs, o_str, o_lenT, o_lenL, o_lenF, o_lenS, o_ixT, o_ixL, o_ixF, ixW_0, ixW_1, ixW_2, o_isStr, o_tupL, o_tupT, o_listT, o_listL, o_listLocT, o_gcd, o_bits, o_finF, o_finT, sat_iVal, sat_iEnum, sat_iRange1, sat_iRange2, o_itT, o_itL, o_itF, o_itS, o_enT, o_rng]
    rintro e t4 ⟨rfl, rfl⟩
    have hw1 := hgr.w1
    have hw2 := hgr.w2
    have hl3 := ht3.lt
    have hm3' : m < t3.length := by obtain ⟨r, e⟩ := hm3; exact lt_of_some e
    have hop3 := lt_of_some ho3
    have g4 : Gr [] t3 (t3 ++ [.lst []]) := .app
    have hs4 := ht3.gr g4 (by simp)
    have hm4 := hm3.gr g4 (by simp)
    have ho4 := g4.at' ho3 (by simp)
    have hc4 : (t3 ++ [PO.lst []])[t3.length]? = some (.lst []) := by simp
    generalize hch : t3.length = ch at *
    generalize t3 ++ [PO.lst []] = t4 at *
    refine seq_mid (fun e t => ∃ (kids : List T) (mv : Option PV), e = ([some (scr ns), some (PV.loc l), some (PV.lst (rs.map Row.pv)), some (PV.loc op), some (PV.loc m), some wish, some (PV.bl b), some row.pv, some (PV.lst (rest.map Row.pv)), some (PV.int sty), some sh, some (PV.loc ch), mv, none] : PEnv) ∧ t[ch]? = some (.lst (T.pvs kids)) ∧ kids.length = row.ws.length ∧ (∀ x ∈ kids, Grow rest x) ∧ SrcAt t l ∧ Room t m ∧ Gr [l, m, ch] t4 t) ?_ ?_
    · rw [ss_for, sat_iRange1, sat_args, sat_cons, sat_bin, sat_var rfl, sat_c, row_ix2, sat_nil, sat_one, o_lenT, o_rng]
      refine ⟨by rw [List.length_map]; omega, ?_⟩
      refine for_invN (k := 0) (fun i e t => ∃ (kids : List T) (mv : Option PV), e = ([some (scr ns), some (PV.loc l), some (PV.lst (rs.map Row.pv)), some (PV.loc op), some (PV.loc m), some wish, some (PV.bl b), some row.pv, some (PV.lst (rest.map Row.pv)), some (PV.int sty), some sh, some (PV.loc ch), mv, none] : PEnv) ∧ t[ch]? = some (.lst (T.pvs kids)) ∧ kids.length = i ∧ (∀ x ∈ kids, Grow rest x) ∧ SrcAt t l ∧ Room t m ∧ Gr [l, m, ch] t4 t)
        ⟨[], _, rfl, hc4, rfl, nofun, hs4, hm4, .refl⟩ ?_ ?_
      · rintro i v e t hv ⟨kids, mv, rfl, hk, hkl, hkt, hst, hmt, g5⟩
        obtain ⟨hi, rfl⟩ := rngs_get hv
        rw [List.length_map] at hi
        have hi : i < row.ws.length := by simpa using hi
        refine ⟨_, rfl, ?_⟩
        have hot := g5.at' ho4 (by simp; exact ⟨Ne.symm nlo, nom, by omega⟩)
        -- the child drawn anew
        have anew : ∀ t', SrcAt t' l → Room t' m → Gr [l, m, ch] t4 t' → t'[ch]? = some (.lst (T.pvs kids)) → SatS (sExpr (eMeth isListP pAppend (eVar 11) (aCons (eCall 6 (fuelF 14 f_law_tree n) (aCons (eVar 0) (aCons (eVar 1) (aCons (eVar 8) (aCons (eVar 3) (aCons (eVar 4) (aCons (eVar 10) aNil))))))) aNil)) ([some (scr ns), some (PV.loc l), some (PV.lst (rs.map Row.pv)), some (PV.loc op), some (PV.loc m), some wish, some (PV.bl b), some row.pv, some (PV.lst (rest.map Row.pv)), some (PV.int sty), some sh, some (PV.loc ch), some (PV.int (0 + (i : Int))), none] : PEnv) t') (fun e t => ∃ (kids : List T) (mv : Option PV), e = ([some (scr ns), some (PV.loc l), some (PV.lst (rs.map Row.pv)), some (PV.loc op), some (PV.loc m), some wish, some (PV.bl b), some row.pv, some (PV.lst (rest.map Row.pv)), some (PV.int sty), some sh, some (PV.loc ch), mv, none] : PEnv) ∧ t[ch]? = some (.lst (T.pvs kids)) ∧ kids.length = 0 + i + 1 ∧ (∀ x ∈ kids, Grow rest x) ∧ SrcAt t l ∧ Room t m ∧ Gr [l, m, ch] t4 t) Q := by
          intro t' a1 a2 a3 a4
          simp only [sat_ok, sat_bind, sat_v, sat_c, sat_bin, sat_un, sat_test, sat_truth, sat_and, sat_or, sat_not, sat_yes, sat_andv, sat_notv, sat_chain, sat_nil, sat_cons, sat_args, sat_call, sat_callX, sat_meth, sat_one, sat_oNone, sat_oSome, sat_sl, sat_tup, sat_lst, sat_loc, ss_nil, ss_seq, ss_set, ss_expr, ss_ret, ss_retN, ss_if, ss_tg, ss_par, ss_sub, ss_for, sat_comp, setTg, setTgs, wipeP, sizeLine_eq, List.map_cons, List.map_nil, List.length_cons, List.length_nil, List.cons_append, List.nil_append, List.set_cons_zero, List.set_cons_succ, List.getElem?_cons_zero, List.getElem?_cons_succ, Nat.reduceAdd, Nat.reduceSub, Nat.reduceLeDiff, List.reduceReplicate, Option.some.injEq, exists_eq_left', true_and, and_true, Nat.zero_add, o_addI, o_addS, o_addT, o_addL, o_subI, o_mulI, o_fdivI, o_modI, o_powI, o_negI, o_eqI, o_neI, o_eqS, o_neS, o_ltI, o_gtI, o_leI, o_geI, o_ltS, o_geS, o_inS, o_notInS, o_isN, o_isNotN, o_isT, o_isNotT, o_isS, o_isNotS, o_int, o_intB, o_abs, o_str, o_lenT, o_lenL, o_lenF, o_lenS, o_ixT, o_ixL, o_ixF, ixW_0, ixW_1, ixW_2, o_isStr, o_tupL, o_tupT, o_listT, o_listL, o_listLocT, o_gcd, o_bits, o_finF, o_finT, sat_iVal, sat_iEnum, sat_iRange1, sat_iRange2, o_itT, o_itL, o_itF, o_itS, o_enT, o_rng]
          refine ⟨o_isL a4, ?_⟩
          refine tree_ok hu0 hul hus nlo nlm nom n rest sh t' _ (by omega) (by omega) hgrest hsh a1 a2 (a3.at' ho4 (by simp; exact ⟨Ne.symm nlo, nom, by omega⟩)) fun v t5 b1 _ b2 b3 b4 => ?_
          have hk5 := b4.at' a4 (by simp; omega)
          rw [o_app hk5]
          refine ⟨by rw [sizeLine_eq, T.pvs_len]; omega, ?_⟩
          have g6 : Gr [ch] t5 (t5.set ch (.lst (T.pvs kids ++ [v.pv]))) := .set (by simp)
          refine ⟨kids ++ [v], _, rfl, by rw [List.getElem?_set_self (lt_of_some hk5), T.pvs_map, T.pvs_map, List.map_append]; rfl, by simp; omega, fun x hx => ?_, b2.gr g6 (by simp; omega), b3.gr g6 (by simp; omega), a3.trans ((b4.mono (by simp)).trans (g6.mono (by simp)))⟩
          rcases List.mem_append.mp hx with q | q
          · exact hkt x q
          · rw [List.mem_singleton.mp q]; exact b1
        have nch : ch ∉ [l] := by simp; omega
        simp only [sat_ok, sat_bind, sat_v, sat_c, sat_bin, sat_un, sat_test, sat_truth, sat_and, sat_or, sat_not, sat_yes, sat_andv, sat_notv, sat_chain, sat_nil, sat_cons, sat_args, sat_call, sat_callX, sat_meth, sat_one, sat_oNone, sat_oSome, sat_sl, sat_tup, sat_lst, sat_loc, ss_nil, ss_seq, ss_set, ss_expr, ss_ret, ss_retN, ss_if, ss_tg, ss_par, ss_sub, ss_for, sat_comp, setTg, setTgs, wipeP, sizeLine_eq, List.map_cons, List.map_nil, List.length_cons, List.length_nil, List.cons_append, List.nil_append, List.set_cons_zero, List.set_cons_succ, List.getElem?_cons_zero, List.getElem?_cons_succ, Nat.reduceAdd, Nat.reduceSub, Nat.reduceLeDiff, List.reduceReplicate, Option.some.injEq, exists_eq_left', true_and, and_true, Nat.zero_add, o_addI, o_addS, o_addT, o_addL, o_subI, o_mulI, o_fdivI, o_modI, o_powI, o_negI, o_eqI, o_neI, o_eqS, o_neS, o_ltI, o_gtI, o_leI, o_geI, o_ltS, o_geS, o_inS, o_notInS, o_isN, o_isNotN, o_isT, o_isNotT, o_isS, o_isNotS, o_int, o_intB, o_abs, o_str, o_lenT, o_lenL, o_lenF, o_lenS, o_ixT, o_ixL, o_ixF, ixW_0, ixW_1, ixW_2, o_isStr, o_tupL, o_tupT, o_listT, o_listL, o_listLocT, o_gcd, o_bits, o_finF, o_finT, sat_iVal, sat_iEnum, sat_iRange1, sat_iRange2, o_itT, o_itL, o_itF, o_itS, o_enT, o_rng] at anew ⊢
        -- the child before, once more
        have again : 0 < i → ∀ t', SrcAt t' l → Room t' m → Gr [l, m, ch] t4 t' → t'[ch]? = some (.lst (T.pvs kids)) → isListP (.loc ch) t' = true ∧ Sat (pIx (.loc ch) (.int (0 + (i : Int) - 1)) t') fun v s => Sat (pAppend (.loc ch) [v] s) fun _ t => ∃ (kids : List T) (mv : Option PV), ([some (scr ns), some (PV.loc l), some (PV.lst (rs.map Row.pv)), some (PV.loc op), some (PV.loc m), some wish, some (PV.bl b), some row.pv, some (PV.lst (rest.map Row.pv)), some (PV.int sty), some sh, some (PV.loc ch), some (PV.int (0 + (i : Int))), none] : PEnv) = ([some (scr ns), some (PV.loc l), some (PV.lst (rs.map Row.pv)), some (PV.loc op), some (PV.loc m), some wish, some (PV.bl b), some row.pv, some (PV.lst (rest.map Row.pv)), some (PV.int sty), some sh, some (PV.loc ch), mv, none] : PEnv) ∧ t[ch]? = some (.lst (T.pvs kids)) ∧ kids.length = i + 1 ∧ (∀ x ∈ kids, Grow rest x) ∧ SrcAt t l ∧ Room t m ∧ Gr [l, m, ch] t4 t := by
          intro h0 t' a1 a2 a3 a4
          refine ⟨o_isL a4, ?_⟩
          rw [o_ixP a4]
          refine ixW_in (by omega) (by rw [T.pvs_len]; omega) fun y hy => ?_
          obtain ⟨y, hy', rfl⟩ := T.pvs_get hy
          rw [o_app a4]
          refine ⟨by rw [sizeLine_eq, T.pvs_len]; omega, ?_⟩
          have g6 : Gr [ch] t' (t'.set ch (.lst (T.pvs kids ++ [y.pv]))) := .set (by simp)
          refine ⟨kids ++ [y], _, rfl, by rw [List.getElem?_set_self (lt_of_some a4), T.pvs_map, T.pvs_map, List.map_append]; rfl, by simp; omega, fun x hx => ?_, a1.gr g6 (by simp; omega), a2.gr g6 (by simp; omega), a3.trans (g6.mono (by simp))⟩
          rcases List.mem_append.mp hx with q | q
          · exact hkt x q
          · rw [List.mem_singleton.mp q]; exact hkt y (List.mem_of_getElem? hy')
        by_cases h0 : 0 < i
        · have e0 : (0 : Int) < 0 + (i : Int) := by omega
          simp only [decide_eq_true e0, (hwb _ _).1, sat_truth, if_true]
          by_cases hb' : wb = true
          · simp only [hb', if_true]
            by_cases h4 : sty = 4
            · subst h4
              simp only [decide_true, if_true]
              exact again h0 _ hst hmt g5 hk
            · simp only [decide_eq_false h4, Bool.false_eq_true, if_false]
              by_cases h3 : sty = 3
              · subst h3
                simp only [decide_true, if_true]
                refine draw' hst (by decide) (by decide) fun r t' _ _ a1 f1 => ?_
                have a2 := hmt.gr f1 (by simpa using Ne.symm nlm)
                have a3 := g5.trans (f1.mono (L' := [l, m, ch]) (by simp))
                have a4 := f1.at' hk nch
                simp only [sat_ok, sat_bind, sat_v, sat_c, sat_bin, sat_un, sat_test, sat_truth, sat_and, sat_or, sat_not, sat_yes, sat_andv, sat_notv, sat_chain, sat_nil, sat_cons, sat_args, sat_call, sat_callX, sat_meth, sat_one, sat_oNone, sat_oSome, sat_sl, sat_tup, sat_lst, sat_loc, ss_nil, ss_seq, ss_set, ss_expr, ss_ret, ss_retN, ss_if, ss_tg, ss_par, ss_sub, ss_for, sat_comp, setTg, setTgs, wipeP, sizeLine_eq, List.map_cons, List.map_nil, List.length_cons, List.length_nil, List.cons_append, List.nil_append, List.set_cons_zero, List.set_cons_succ, List.getElem?_cons_zero, List.getElem?_cons_succ, Nat.reduceAdd, Nat.reduceSub, Nat.reduceLeDiff, List.reduceReplicate, Option.some.injEq, exists_eq_left', true_and, and_true, Nat.zero_add, o_addI, o_addS, o_addT, o_addL, o_subI, o_mulI, o_fdivI, o_modI, o_powI, o_negI, o_eqI, o_neI, o_eqS, o_neS, o_ltI, o_gtI, o_leI, o_geI, o_ltS, o_geS, o_inS, o_notInS, o_isN, o_isNotN, o_isT, o_isNotT, o_isS, o_isNotS, o_int, o_intB, o_abs, o_str, o_lenT, o_lenL, o_lenF, o_lenS, o_ixT, o_ixL, o_ixF, ixW_0, ixW_1, ixW_2, o_isStr, o_tupL, o_tupT, o_listT, o_listL, o_listLocT, o_gcd, o_bits, o_finF, o_finT, sat_iVal, sat_iEnum, sat_iRange1, sat_iRange2, o_itT, o_itL, o_itF, o_itS, o_enT, o_rng]
                split
                · exact again h0 _ a1 a2 a3 a4
                · exact anew _ a1 a2 a3 a4
              · simp only [decide_eq_false h3, Bool.false_eq_true, if_false]
                exact anew _ hst hmt g5 hk
          · simp only [hb', Bool.false_eq_true, if_false]
            exact anew _ hst hmt g5 hk
        · have e0 : ¬ (0 : Int) < 0 + (i : Int) := by omega
          simp only [decide_eq_false e0, Bool.false_eq_true, if_false]
          exact anew _ hst hmt g5 hk
      · rintro e t ⟨kids, mv, rfl, hk, hkl, hkt, hst, hmt, g5⟩
        exact ⟨kids, mv, rfl, hk, by rw [hkl, rngs_len]; simp, hkt, hst, hmt, g5⟩
    rintro e t ⟨kids, mv, rfl, hk, hkl, hkt, hst, hmt, g5⟩
    rw [ss_ret, sat_args, sat_cons, sat_bin, sat_var rfl, sat_c, row_ix0, sat_cons, sat_args, sat_cons, sat_var rfl, sat_nil, sat_one, o_tupP hk, sat_nil, sat_tup]
    refine ⟨sl2, ?_⟩
    refine k (.node row.n kids) t ?_ (fun _ _ => ⟨_, _, rfl⟩) hst hmt ?_
    · refine .node hrow hkl fun x m => ?_
      rw [← hrest]; exact hkt x m
    · have a1 : Gr [l, m] t3 t := ((g4.mono (by simp)).trans g5).cut (by
        intro j hj hlt'
        simp only [List.mem_cons, List.not_mem_nil, or_false] at hj ⊢
        omega)
      exact g2.trans ((f3.mono (by simp)).trans a1)
/-! ### what grows is bounded, and well formed -/
theorem Grow.fit {c : Nat} : ∀ {n : Nat} {free : List Row} {t : T}, free.length ≤ n → (∀ r ∈ free, r.ws.length ≤ c ∧ r.n.length ≤ 60) → Grow free t → T.Fit c n t
  | n, free, _, hl, hf, .leaf hz => .leaf hz
  | 0, free, _, hl, hf, .node (r := r) hr _ _ => by
    have := List.length_pos_of_mem hr
    omega
  | n + 1, free, _, hl, hf, .node (r := r) hr hc hk => by
    have h1 := hf r hr
    refine .node h1.2 (by rw [hc]; exact h1.1) fun x m => Grow.fit (n := n) ?_ (fun q mq => hf q (List.mem_filter.mp mq).1) (hk x m)
    have : (free.filter fun q => !decide (q.n = r.n)).length < free.length := List.length_filter_lt_length_iff_exists.mpr ⟨r, hr, by simp⟩
    omega
theorem grown_ok {ns : List Int} {l : Nat} {st : Store} {Q : PV → Store → Prop} {ow : List Int} {most : Int} (hs : SrcAt st l) (ho : ∀ o ∈ ow, 0 ≤ o ∧ o ≤ 2) (h1 : ow ≠ []) (h2 : ow.length ≤ 10) (hm1 : 1 ≤ most) (hm2 : most ≤ 1000)
    (k : ∀ rs t s, Gen rs → rs ≠ [] → rs.length ≤ ow.length → Grow rs t → (∃ n cs, t = .node n cs) → SrcAt s l → Gr [l] st s → Q (.tup [.tup (rs.map Row.pv), t.pv]) s) : Sat (m_law_grown_game [scr ns, .loc l, .lst (ints' ow), .int most, .int 14] st) Q := by
  refine sat_body ?_
  unfold f_law_grown_game
  simp only [List.map_cons, List.map_nil, List.length_cons, List.length_nil, Nat.reduceAdd, Nat.reduceSub, List.reduceReplicate, List.cons_append, List.nil_append]
  rw [ss_seq, ss_set, sat_call, sat_cons, sat_var rfl, sat_cons, sat_var rfl, sat_cons, sat_var rfl, sat_cons, sat_var rfl, sat_nil]
  refine ⟨rfl, owned_ok hs ho h2 hm1 hm2 fun rs s1 gen hlen hs1 g1 => ?_⟩
  have hne : rs ≠ [] := by
    intro z; subst z
    exact h1 (List.length_eq_zero_iff.mp (by simpa using hlen.symm))
  rw [ss_seq, ss_set, sat_call, sat_cons, sat_var rfl, sat_cons, sat_var rfl, sat_cons, sat_c, sat_cons, sat_c, sat_nil]
  refine ⟨rfl, outcomes_ok hs1 fun us s2 u1 u2 u3 u4 hs2 g2 => ?_⟩
  have hl := hs1.lt
  generalize hop : s1.length = op at *
  have wide : ∀ (P : Row → Bool), ∀ r ∈ rs.filter P, r ∈ rs := fun P r m => (List.mem_filter.mp m).1
  refine seq_mid (fun e s => ∃ wd : List Row, e = ([some (scr ns), some (PV.loc l), some (PV.lst (ints' ow)), some (PV.int most), some (PV.int 14), some (.tup (rs.map Row.pv)), some (.loc op), some (.lst (wd.map Row.pv)), none, none] : PEnv) ∧ (∀ r ∈ wd, r ∈ rs) ∧ wd.length ≤ 10 ∧ s = s2) ?_ ?_
  · rw [ss_set, sat_comp, sat_iVal, sat_var rfl, o_itT]
    refine comp_filt (as := rs) (f := Row.pv) (g := Row.pv) (p := fun q => decide (1 < q.ws.length)) (by simp [wipeP]) (by omega) (fun x hx => t_ok fun Q k => by
        rw [sat_bin, sat_args, sat_cons, sat_bin, sat_var (v := x.pv) (by simp [wipeP]), sat_c, row_ix2, sat_nil, sat_one, o_lenT, sat_c, o_gtI, List.length_map]
        have : decide ((1 : Int) < (x.ws.length : Int)) = decide (1 < x.ws.length) := by rw [decide_eq_decide]; omega
        rw [this]; exact k) (fun x hx _ => det fun Q k => by
        rw [sat_var (v := x.pv) (by simp [wipeP])]; exact k) ?_ _ trivial
    rw [o_finF]
    exact ⟨_, rfl, wide _, Nat.le_trans (List.length_filter_le _ _) (by omega), rfl⟩
  rintro e s ⟨wd, rfl, hw1, hw2, rfl⟩
  refine seq_mid (fun e t => ∃ wd : List Row, e = ([some (scr ns), some (PV.loc l), some (PV.lst (ints' ow)), some (PV.int most), some (PV.int 14), some (.tup (rs.map Row.pv)), some (.loc op), some (.lst (wd.map Row.pv)), none, none] : PEnv) ∧ (∀ r ∈ wd, r ∈ rs) ∧ wd.length ≤ 10 ∧ wd ≠ [] ∧ t = s) ?_ ?_
  · rw [ss_if, sat_test, sat_bin, sat_args, sat_cons, sat_var rfl, sat_nil, sat_one, o_lenL, sat_c, o_eqI, sat_truth, List.length_map]
    by_cases h0 : wd.length = 0
    · rw [decide_eq_true (by omega), if_pos rfl, ss_set, sat_args, sat_cons, sat_var rfl, sat_nil, sat_one, o_listT]
      exact ⟨rs, rfl, fun r m => m, by omega, hne, rfl⟩
    · rw [decide_eq_false (by omega), if_neg (by simp), ss_nil]
      exact ⟨wd, rfl, hw1, hw2, fun z => h0 (by rw [z]; rfl), rfl⟩
  rintro e t ⟨wd, rfl, hw1, hw2, hw3, rfl⟩
  have hwp := List.length_pos_iff.mpr hw3
  rw [ss_seq, ss_set, sat_bin, sat_var rfl, sat_call, sat_cons, sat_var rfl, sat_cons, sat_var rfl, sat_cons, sat_args, sat_cons, sat_var rfl, sat_nil, sat_one, o_lenL, sat_nil]
  refine ⟨rfl, draw' hs2 (by rw [List.length_map]; omega) (log2_k (n := 10) (by omega) (by rw [List.length_map]; omega)) fun r s3 c0 c1 hs3 g3 => ?_⟩
  rw [o_ixL]
  refine draw_len c0 c1 fun y hy => ?_
  obtain ⟨top, mt, rfl⟩ := List.mem_map.mp hy
  have u5 := g3.at' u4 (by simp; omega)
  rw [ss_ret, sat_args, sat_cons, sat_var rfl, sat_cons, sat_call, sat_cons, sat_var rfl, sat_cons, sat_var rfl, sat_cons, sat_args, sat_cons, sat_var rfl, sat_nil, sat_one, o_listT, sat_cons, sat_var rfl, sat_cons, sat_args, sat_cons, sat_var rfl, sat_nil, sat_loc]
  refine ⟨sl1, ?_⟩
  rw [sat_cons, sat_var rfl, sat_nil]
  have hl3 := lt_of_some u5
  have hl4 := hs3.lt
  refine ⟨rfl, tree_ok (us := us) u1 (by omega) (fun u m => by have := u3 u m; omega) (by omega) (by omega) (by omega) 60 rs top.pv _ _ (by omega) (by omega) gen.ok (.inr ⟨top, hw1 top mt, rfl⟩) (hs3.gr (L := []) .app (by simp)) ⟨14, by simp⟩ ((Gr.app (L := [])).at' u5 (by simp)) fun t s4 t1 t2 t3 t4 t5 => ?_⟩
  rw [sat_nil, sat_tup]
  refine ⟨sl2, k rs t s4 gen hne (by omega) t1 (t2 (by unfold Row.pv; exact nofun) fun r0 hr0 => by simp at hr0; omega) t3 ?_⟩
  refine g1.trans (g2.trans (g3.trans ?_))
  refine Gr.cut (L := [l, s3.length]) (L' := [l]) ((Gr.app (L := [l, s3.length])).trans t5) ?_
  intro j hj hlt'
  simp only [List.mem_cons, List.not_mem_nil, or_false] at hj ⊢
  omega
end PL
/-! PL, part QD: nodes of a tree, renaming; no program in sight. -/
namespace PL
open PySem PySem.Spec PyProof.Rows L2
def T.nm : T → Str
  | .leaf _ => ""
  | .node n _ => n
abbrev Nd := List Nat × T × List (Str × Nat)
mutual
def nodesR : T → List Nd
  | .leaf _ => []
  | .node n cs => ([], .node n cs, []) :: nodesRs n 0 cs
def nodesRs (n : Str) : Nat → List T → List Nd
  | _, [] => []
  | i, c :: cs => (nodesR c).map (fun q => (i :: q.1, q.2.1, (n, i) :: q.2.2)) ++ nodesRs n (i + 1) cs
end
theorem nodesRs_snoc {n : Str} {c : T} : ∀ {cs : List T} {i : Nat}, nodesRs n i (cs ++ [c]) = nodesRs n i cs ++ (nodesR c).map (fun q => (((i + cs.length) :: q.1, q.2.1, (n, i + cs.length) :: q.2.2) : Nd))
  | [], i => by simp [nodesRs]
  | d :: cs, i => by
    rw [List.cons_append, nodesRs, nodesRs, nodesRs_snoc, List.append_assoc, List.length_cons]
    have : i + 1 + cs.length = i + (cs.length + 1) := by omega
    rw [this]
theorem nodesRs_take {n : Str} {cs : List T} {j : Nat} {c : T} (h : cs[j]? = some c) : nodesRs n 0 (cs.take (j + 1)) = nodesRs n 0 (cs.take j) ++ (nodesR c).map (fun q => ((j :: q.1, q.2.1, (n, j) :: q.2.2) : Nd)) := by
  have hj : j < cs.length := (List.getElem?_eq_some_iff.mp h).1
  have e : cs.take (j + 1) = cs.take j ++ [c] := by rw [List.take_add_one, h]; rfl
  rw [e, nodesRs_snoc]
  have : 0 + (cs.take j).length = j := by rw [List.length_take]; omega
  rw [this]
theorem mem_nodesRs {n : Str} {q : Nd} : ∀ {cs : List T} {i : Nat}, q ∈ nodesRs n i cs → ∃ (j : Nat) (c : T) (q' : Nd), cs[j]? = some c ∧ q' ∈ nodesR c ∧ q = ((i + j) :: q'.1, q'.2.1, (n, i + j) :: q'.2.2)
  | [], _, h => by simp [nodesRs] at h
  | c :: cs, i, h => by
    rw [nodesRs, List.mem_append] at h
    rcases h with h | h
    · obtain ⟨q', m, rfl⟩ := List.mem_map.mp h
      exact ⟨0, c, q', rfl, m, rfl⟩
    · obtain ⟨j, d, q', h1, h2, rfl⟩ := mem_nodesRs h
      refine ⟨j + 1, d, q', by simpa using h1, h2, ?_⟩
      have : i + 1 + j = i + (j + 1) := by omega
      rw [this]
theorem mem_nodesRs_of {n : Str} {q' : Nd} {c : T} : ∀ {cs : List T} {i j : Nat}, cs[j]? = some c → q' ∈ nodesR c → (((i + j) :: q'.1, q'.2.1, (n, i + j) :: q'.2.2) : Nd) ∈ nodesRs n i cs
  | [], _, _, h, _ => by simp at h
  | d :: cs, i, 0, h, m => by
    simp only [List.getElem?_cons_zero, Option.some.injEq] at h
    subst h
    rw [nodesRs, List.mem_append]
    exact .inl (List.mem_map.mpr ⟨q', m, rfl⟩)
  | d :: cs, i, j + 1, h, m => by
    rw [nodesRs, List.mem_append]
    have := mem_nodesRs_of (n := n) (i := i + 1) (j := j) (by simpa using h) m
    have e : i + 1 + j = i + (j + 1) := by omega
    rw [e] at this
    exact .inr this
/-- a way from a node to a node below -/
inductive Walk : T → List Nat → List (Str × Nat) → T → Prop
  | nil {t : T} : Walk t [] [] t
  | cons {n : Str} {cs : List T} {i : Nat} {c x : T} {p : List Nat} {pr : List (Str × Nat)} : cs[i]? = some c → Walk c p pr x → Walk (.node n cs) (i :: p) ((n, i) :: pr) x
theorem walk_of_mem {q : Nd} : ∀ {t : T}, q ∈ nodesR t → Walk t q.1 q.2.2 q.2.1 ∧ ∃ n cs, q.2.1 = .node n cs
  | .leaf _, h => by simp [nodesR] at h
  | .node n cs, h => by
    rw [nodesR, List.mem_cons] at h
    rcases h with rfl | h
    · exact ⟨.nil, n, cs, rfl⟩
    · obtain ⟨j, c, q', h1, h2, rfl⟩ := mem_nodesRs h
      have := List.mem_of_getElem? h1
      obtain ⟨w, n', cs', e⟩ := walk_of_mem h2
      rw [Nat.zero_add]
      exact ⟨.cons h1 w, n', cs', e⟩
theorem mem_of_walk {n : Str} {cs : List T} : ∀ {t : T} {p : List Nat} {pr : List (Str × Nat)} {x : T}, Walk t p pr x → x = .node n cs → (p, x, pr) ∈ nodesR t
  | _, _, _, _, .nil, e => by subst e; rw [nodesR]; exact List.mem_cons_self
  | _, _, _, _, .cons (n := m) (cs := ds) (i := i) h w, e => by
    rw [nodesR]
    have := mem_nodesRs_of (n := m) (i := 0) (j := i) h (mem_of_walk w e)
    rw [Nat.zero_add] at this
    exact List.mem_cons_of_mem _ this
theorem Walk.len {t : T} {p : List Nat} {pr : List (Str × Nat)} {x : T} (w : Walk t p pr x) : pr.length = p.length := by
  induction w with
  | nil => rfl
  | cons _ _ ih => simp [ih]
theorem Walk.deep {c : Nat} : ∀ {t : T} {p : List Nat} {pr : List (Str × Nat)} {x : T} {d : Nat}, Walk t p pr x → T.Fit c d t → p.length ≤ d ∧ ∀ i ∈ p, i < c
  | _, _, _, _, _, .nil, _ => ⟨Nat.zero_le _, nofun⟩
  | _, _, _, _, _, .cons h w, .node h1 h2 h3 => by
    have := w.deep (h3 _ (List.mem_of_getElem? h))
    refine ⟨by simp only [List.length_cons]; omega, fun j m => ?_⟩
    rcases List.mem_cons.mp m with rfl | m
    · have := (List.getElem?_eq_some_iff.mp h).1; omega
    · exact this.2 j m
theorem nodes_len {c : Nat} : ∀ {t : T} {d : Nat}, T.Fit c d t → (nodesR t).length ≤ (c + 1) ^ d
  | _, d, .leaf _ => by simp [nodesR]
  | _, d + 1, .node (n := n) (cs := cs) _ h2 h3 => by
    have key : ∀ (ds : List T) (i : Nat), (∀ x ∈ ds, (nodesR x).length ≤ (c + 1) ^ d) → (nodesRs n i ds).length ≤ ds.length * (c + 1) ^ d := by
      intro ds
      induction ds with
      | nil => intro i _; simp [nodesRs]
      | cons x ds ih =>
        intro i h
        rw [nodesRs, List.length_append, List.length_map, List.length_cons, Nat.add_mul, Nat.one_mul]
        have := h x List.mem_cons_self
        have := ih (i + 1) fun y m => h y (List.mem_cons_of_mem _ m)
        omega
    have k1 := key cs 0 fun x m => nodes_len (h3 x m)
    have k2 : cs.length * (c + 1) ^ d ≤ c * (c + 1) ^ d := Nat.mul_le_mul_right _ h2
    have k3 : 0 < (c + 1) ^ d := Nat.pow_pos (Nat.succ_pos c)
    rw [nodesR, List.length_cons, Nat.pow_succ, Nat.mul_comm, Nat.add_mul, Nat.one_mul]
    omega
/-! ### renaming at places, by names -/
mutual
def renS (new : Str) : (List Nat → Bool) → T → T
  | _, .leaf z => .leaf z
  | S, .node n cs => .node (if S [] = true then new else n) (renSs new S 0 cs)
def renSs (new : Str) : (List Nat → Bool) → Nat → List T → List T
  | _, _, [] => []
  | S, i, c :: cs => renS new (fun p => S (i :: p)) c :: renSs new S (i + 1) cs
end
mutual
def mapN (f : Str → Str) : T → T
  | .leaf z => .leaf z
  | .node n cs => .node (f n) (mapNs f cs)
def mapNs (f : Str → Str) : List T → List T
  | [] => []
  | c :: cs => mapN f c :: mapNs f cs
end
theorem mapNs_map {f : Str → Str} : ∀ cs : List T, mapNs f cs = cs.map (mapN f)
  | [] => by simp [mapNs]
  | c :: cs => by simp [mapNs, mapNs_map cs]
theorem renSs_len {new : Str} {S : List Nat → Bool} : ∀ {cs : List T} {i : Nat}, (renSs new S i cs).length = cs.length
  | [], _ => by simp [renSs]
  | c :: cs, i => by simp [renSs, renSs_len]
theorem renSs_get {new : Str} {S : List Nat → Bool} : ∀ {cs : List T} {i j : Nat}, (renSs new S i cs)[j]? = (cs[j]?).map (renS new fun p => S ((i + j) :: p))
  | [], _, _ => by simp [renSs]
  | c :: cs, i, 0 => by simp [renSs]
  | c :: cs, i, j + 1 => by
    rw [renSs, List.getElem?_cons_succ, renSs_get, List.getElem?_cons_succ]
    have : i + 1 + j = i + (j + 1) := by omega
    rw [this]
theorem renSs_none {new : Str} : ∀ {S : List Nat → Bool} {cs : List T} {i : Nat}, (∀ x ∈ cs, ∀ S : List Nat → Bool, (∀ p, S p = false) → renS new S x = x) → (∀ j p, i ≤ j → S (j :: p) = false) → renSs new S i cs = cs
  | S, [], _, _, _ => by simp [renSs]
  | S, c :: cs, i, h, hS => by rw [renSs, h c List.mem_cons_self _ fun p => hS i p (Nat.le_refl _), renSs_none (fun x m => h x (List.mem_cons_of_mem _ m)) fun j p hj => hS j p (by omega)]
theorem renS_none {c d : Nat} {new : Str} {t : T} (hf : T.Fit c d t) : ∀ S : List Nat → Bool, (∀ p, S p = false) → renS new S t = t := by
  refine T.ind (P := fun t => ∀ S : List Nat → Bool, (∀ p, S p = false) → renS new S t = t) ?_ ?_ hf
  · intro z S _; rw [renS]
  · intro n cs ih S hS
    rw [renS, hS [], if_neg (by simp), renSs_none ih fun j p _ => hS _]
theorem renSs_or {new : Str} : ∀ {S1 S2 : List Nat → Bool} {cs : List T} {i : Nat}, (∀ x ∈ cs, ∀ S1 S2 : List Nat → Bool, renS new S1 (renS new S2 x) = renS new (fun p => S1 p || S2 p) x) → renSs new S1 i (renSs new S2 i cs) = renSs new (fun p => S1 p || S2 p) i cs
  | _, _, [], _, _ => by simp [renSs]
  | S1, S2, c :: cs, i, h => by rw [renSs, renSs, renSs, h c List.mem_cons_self, renSs_or fun x m => h x (List.mem_cons_of_mem _ m)]
theorem renS_or {c d : Nat} {new : Str} {t : T} (hf : T.Fit c d t) : ∀ S1 S2 : List Nat → Bool, renS new S1 (renS new S2 t) = renS new (fun p => S1 p || S2 p) t := by
  refine T.ind (P := fun t => ∀ S1 S2 : List Nat → Bool, renS new S1 (renS new S2 t) = renS new (fun p => S1 p || S2 p) t) ?_ ?_ hf
  · intro z S1 S2; rw [renS, renS, renS]
  · intro n cs ih S1 S2
    rw [renS, renS, renS, renSs_or ih]
    congr 1
    cases S1 [] <;> cases S2 [] <;> simp
/-- only where the places agree does it matter -/
theorem renSs_congr {new : Str} {S1 S2 : List Nat → Bool} : ∀ {cs : List T} {i : Nat}, (∀ p, S1 p = S2 p) → renSs new S1 i cs = renSs new S2 i cs := by
  intro cs i h
  have : S1 = S2 := funext h
  rw [this]
theorem renS_walk {new : Str} : ∀ {t x : T} {p : List Nat} {pr : List (Str × Nat)} {S : List Nat → Bool}, Walk t p pr x → ∃ pr', Walk (renS new S t) p pr' (renS new (fun q => S (p ++ q)) x)
  | _, _, _, _, S, .nil => ⟨[], .nil⟩
  | _, _, _, _, S, .cons (n := n) (cs := cs) (i := i) h w => by
    obtain ⟨pr', w'⟩ := renS_walk (new := new) (S := fun p => S (i :: p)) w
    rw [renS]
    exact ⟨_, .cons (by rw [renSs_get, h, Nat.zero_add]; rfl) w'⟩
/-- put at a place -/
def setAt (x : T) : List Nat → T → T
  | [], _ => x
  | i :: p, .node n cs => .node n (cs.modify i (setAt x p))
  | _ :: _, .leaf z => .leaf z
theorem modify_ren {new : Str} {x : T} {p : List Nat} {c d : Nat} : ∀ {cs : List T} {i j : Nat}, (∀ y ∈ cs, T.Fit c d y) → (∀ y, cs[j]? = some y → setAt x p y = renS new (fun q => decide (q = p)) y) →
    cs.modify j (setAt x p) = renSs new (fun q => decide (q = (i + j) :: p)) i cs
  | [], i, j, _, _ => by simp [renSs]
  | y :: cs, i, 0, hf, h => by
    rw [List.modify_zero_cons, renSs, h y rfl]
    congr 1
    · congr 1
      funext q
      simp
    · refine (renSs_none (fun z m S hS => renS_none (hf z (List.mem_cons_of_mem _ m)) S hS) fun j q hj => ?_).symm
      simp only [List.cons.injEq, decide_eq_false_iff_not, not_and]
      omega
  | y :: cs, i, j + 1, hf, h => by
    rw [List.modify_succ_cons, renSs, modify_ren (i := i + 1) (j := j) (fun z m => hf z (List.mem_cons_of_mem _ m)) fun z hz => h z (by simpa using hz)]
    have e : i + 1 + j = i + (j + 1) := by omega
    rw [e]
    congr 1
    refine (renS_none (hf y List.mem_cons_self) _ fun q => ?_).symm
    simp only [List.cons.injEq, decide_eq_false_iff_not, not_and]
    omega
end PL
/-! PL, part QE: games as data of Lean; no program in sight. -/
namespace PL
open PySem PySem.Spec PyProof.Rows L2
theorem setAt_ren {new : Str} : ∀ {t x : T} {p : List Nat} {pr : List (Str × Nat)} {m : Str} {cs : List T} {c d : Nat}, Walk t p pr x → x = .node m cs → T.Fit c d t → setAt (.node new cs) p t = renS new (fun q => decide (q = p)) t
  | _, _, _, _, m, cs, c, d, .nil, e, hf => by
    subst e
    cases hf with
    | node h1 h2 h3 =>
      rw [setAt, renS, renSs_none (fun z m S hS => renS_none (h3 z m) S hS) fun j p _ => by simp]
      simp
  | _, _, _, _, m, cs, c, _, .cons (n := n) (cs := ds) (i := i) h w, e, .node h1 h2 h3 => by
    have hk : ∀ y, ds[i]? = some y → setAt (.node new cs) _ y = renS new (fun q => decide (q = _)) y := fun y hy => by
      rw [h] at hy
      cases hy
      exact setAt_ren w e (h3 _ (List.mem_of_getElem? h))
    rw [setAt, renS, modify_ren (i := 0) (j := i) h3 hk, Nat.zero_add]
    simp
theorem mapNs_get {f : Str → Str} {cs : List T} {j : Nat} : (mapNs f cs)[j]? = (cs[j]?).map (mapN f) := by rw [mapNs_map, List.getElem?_map]
theorem back_kids {f : Str → Str} {new : Str} : ∀ {S : List Nat → Bool} {cs : List T} {i : Nat}, (∀ (j : Nat) (x : T), cs[j]? = some x → mapN f (renS new (fun p => S ((i + j) :: p)) x) = x) → mapNs f (renSs new S i cs) = cs
  | _, [], _, _ => by simp [renSs, mapNs]
  | S, c :: cs, i, h => by
    rw [renSs, mapNs]
    have h0 := h 0 c rfl
    rw [Nat.add_zero] at h0
    rw [h0, back_kids fun j x hx => ?_]
    have := h (j + 1) x (by simpa using hx)
    have e : i + 1 + j = i + (j + 1) := by omega
    rw [e]; exact this
/-- renamed, and named as before -/
theorem map_back {c d : Nat} {f : Str → Str} {new : Str} {t : T} (hf : T.Fit c d t) : ∀ S : List Nat → Bool, (∀ p pr n cs, Walk t p pr (.node n cs) → (S p = true → f new = n) ∧ (S p = false → f n = n)) → mapN f (renS new S t) = t := by
  refine T.ind (P := fun t => ∀ S : List Nat → Bool, (∀ p pr n cs, Walk t p pr (.node n cs) → (S p = true → f new = n) ∧ (S p = false → f n = n)) → mapN f (renS new S t) = t) ?_ ?_ hf
  · intro z S _; rw [renS, mapN]
  · intro n cs ih S h
    rw [renS, mapN, back_kids fun j x hx => ih x (List.mem_of_getElem? hx) _ fun p pr m ds w => ?_]
    · have := h [] [] n cs .nil
      cases e : S [] with
      | true => rw [if_pos rfl, this.1 e]
      | false => rw [if_neg (by simp), this.2 e]
    · rw [Nat.zero_add]
      exact h _ _ m ds (.cons hx w)
def mapNd (f : Str → Str) (q : Nd) : Nd := (q.1, mapN f q.2.1, q.2.2.map fun z => (f z.1, z.2))
theorem nodes_mapN {c d : Nat} {f : Str → Str} {t : T} (hf : T.Fit c d t) : nodesR (mapN f t) = (nodesR t).map (mapNd f) := by
  refine T.ind (P := fun t => nodesR (mapN f t) = (nodesR t).map (mapNd f)) ?_ ?_ hf
  · intro z; simp [mapN, nodesR]
  · intro n cs ih
    have key : ∀ (ds : List T) (i : Nat), (∀ x ∈ ds, nodesR (mapN f x) = (nodesR x).map (mapNd f)) → nodesRs (f n) i (mapNs f ds) = (nodesRs n i ds).map (mapNd f) := by
      intro ds
      induction ds with
      | nil => intro i _; simp [mapNs, nodesRs]
      | cons x ds ihd =>
        intro i h
        rw [mapNs, nodesRs, nodesRs, List.map_append, h x List.mem_cons_self, ihd (i + 1) fun y m => h y (List.mem_cons_of_mem _ m), List.map_map, List.map_map]
        congr 1
    rw [mapN, nodesR, nodesR, List.map_cons, key cs 0 ih]
    rfl
theorem nm_mapN {f : Str → Str} {n : Str} {cs : List T} : (mapN f (.node n cs)).nm = f n := by rw [mapN]; rfl
theorem fit_ren {c d : Nat} {new : Str} {t : T} (hf : T.Fit c d t) (hn : new.length ≤ 60) : ∀ S, T.Fit c d (renS new S t) := by
  induction hf with
  | leaf h => intro S; rw [renS]; exact .leaf h
  | @node d n cs h1 h2 h3 ih =>
    intro S
    rw [renS]
    refine .node ?_ (by rw [renSs_len]; exact h2) fun x m => ?_
    · split
      · exact hn
      · exact h1
    · obtain ⟨j, hj, e⟩ := List.getElem_of_mem m
      have e2 : (renSs new S 0 cs)[j]? = some x := by rw [List.getElem?_eq_getElem hj, e]
      rw [renSs_get] at e2
      cases e3 : cs[j]? with
      | none => rw [e3] at e2; cases e2
      | some y => rw [e3] at e2; cases e2; exact ih y (List.mem_of_getElem? e3) _
theorem fit_mapN {c d : Nat} {f : Str → Str} {t : T} (hf : T.Fit c d t) (hn : ∀ n, n.length ≤ 60 → (f n).length ≤ 60) : T.Fit c d (mapN f t) := by
  induction hf with
  | leaf h => rw [mapN]; exact .leaf h
  | @node d n cs h1 h2 h3 ih =>
    rw [mapN, mapNs_map]
    refine .node (hn _ h1) (by rw [List.length_map]; exact h2) fun x m => ?_
    obtain ⟨y, my, rfl⟩ := List.mem_map.mp m
    exact ih y my
/-! ### ways -/
def onWay (q : Nd) : List Str := q.2.2.map (·.1)
def Uniq (t : T) : Prop := ∀ q ∈ nodesR t, q.2.1.nm ∉ onWay q
def passes (a b : Str) (t : T) : Bool := (nodesR t).any fun q => decide (q.2.1.nm = a) && decide (b ∈ onWay q)
theorem onWay_map {f : Str → Str} {q : Nd} : onWay (mapNd f q) = (onWay q).map f := by
  unfold onWay mapNd
  rw [List.map_map, List.map_map]
  rfl
theorem Grow.way {rs : List Row} {t : T} (h : Grow rs t) : ∀ q ∈ nodesR t, (∃ r ∈ rs, r.n = q.2.1.nm) ∧ (∀ m ∈ onWay q, ∃ r ∈ rs, r.n = m) ∧ q.2.1.nm ∉ onWay q := by
  induction h with
  | leaf _ => intro q m; simp [nodesR] at m
  | @node free r cs hr hl hk ih =>
    intro q m
    rw [nodesR, List.mem_cons] at m
    rcases m with rfl | m
    · exact ⟨⟨r, hr, rfl⟩, by simp [onWay], by simp [onWay]⟩
    · obtain ⟨j, c, q', h1, h2, rfl⟩ := mem_nodesRs m
      obtain ⟨⟨r1, m1, e1⟩, i2, i3⟩ := ih c (List.mem_of_getElem? h1) q' h2
      have m1' := List.mem_filter.mp m1
      refine ⟨⟨r1, m1'.1, e1⟩, fun x mx => ?_, fun mx => ?_⟩
      · rcases List.mem_cons.mp mx with rfl | mx
        · exact ⟨r, hr, rfl⟩
        · obtain ⟨r2, m2, e2⟩ := i2 x mx
          exact ⟨r2, (List.mem_filter.mp m2).1, e2⟩
      · rcases List.mem_cons.mp mx with e | mx
        · have : r1.n = r.n := by rw [e1]; exact e
          simp [this] at m1'
        · exact i3 mx
/-- a game as it is drawn -/
structure Good (rs : List Row) (t : T) : Prop where
  ok : ∀ r ∈ rs, r.Ok
  nd : (rs.map (·.n)).Nodup
  so : rs.Pairwise fun a b => rowLe a b = true
  ne : rs ≠ []
  len : rs.length ≤ 1000
  fit : T.Fit 3 4 t
  dec : ∀ q ∈ nodesR t, ∃ r ∈ rs, r.n = q.2.1.nm
  un : Uniq t
theorem nd_inj {rs : List Row} (h : (rs.map (·.n)).Nodup) {a b : Row} (ha : a ∈ rs) (hb : b ∈ rs) (e : a.n = b.n) : a = b := by
  induction rs with
  | nil => cases ha
  | cons r rs ih =>
    rw [List.map_cons, List.nodup_cons] at h
    rcases List.mem_cons.mp ha with ea | ha
    · rcases List.mem_cons.mp hb with eb | hb
      · rw [ea, eb]
      · exact absurd (List.mem_map.mpr ⟨b, hb, by rw [← ea]; exact e.symm⟩) h.1
    · rcases List.mem_cons.mp hb with eb | hb
      · exact absurd (List.mem_map.mpr ⟨a, ha, by rw [← eb]; exact e⟩) h.1
      · exact ih h.2 ha hb
def rowP (nm : Str) (r : Row) : Bool := decide (r.n = nm)
theorem find_mem {rs : List Row} (h : (rs.map (·.n)).Nodup) {r : Row} (m : r ∈ rs) : rs.find? (rowP r.n) = some r := by
  cases e : rs.find? (rowP r.n) with
  | none => exact absurd (List.find?_eq_none.mp e r m) (by simp [rowP])
  | some x =>
    have h1 := List.find?_some e
    have h2 := List.mem_of_find?_eq_some e
    simp only [rowP, decide_eq_true_eq] at h1
    rw [nd_inj h h2 m h1]
/-- two sets that can be put together -/
def canM (rs : List Row) (t : T) (a b : Str) : Bool := match rs.find? (rowP a), rs.find? (rowP b) with
  | some r1, some r2 => !decide (a = b) && (decide (r1.o = r2.o) && decide (r1.ws = r2.ws)) && !(passes a b t || passes b a t)
  | _, _ => false
/-- the parted game can be put together again -/
theorem parted_back {rs : List Row} {t : T} {x : Row} {new : Str} {S : List Nat → Bool} (g : Good rs t) (hx : x ∈ rs) (hn : new ∉ rs.map (·.n)) (hl : new.length ≤ 40) (hlen : rs.length ≤ 200) (hS : ∀ p pr n cs, Walk t p pr (.node n cs) → S p = true → n = x.n) :
    mapN (fun n => if n = new then x.n else n) (renS new S t) = t ∧ canM ((rs ++ [Row.mk new x.o x.ws]).mergeSort rowLe) (renS new S t) x.n new = true ∧
    Good ((rs ++ [Row.mk new x.o x.ws]).mergeSort rowLe) (renS new S t) ∧ ((rs ++ [Row.mk new x.o x.ws]).mergeSort rowLe).filter (fun r => !decide (r.n = new)) = rs := by
  have xn : x.n ≠ new := fun e => hn (List.mem_map.mpr ⟨x, hx, e⟩)
  have hb : mapN (fun n => if n = new then x.n else n) (renS new S t) = t := map_back g.fit S fun p pr n cs w => by
    refine ⟨fun e => ?_, fun e => ?_⟩
    · rw [if_pos rfl]; exact (hS p pr n cs w e).symm
    · have := g.dec _ (mem_of_walk w rfl)
      obtain ⟨r, mr, er⟩ := this
      rw [if_neg]
      intro z
      have er : r.n = n := er
      exact hn (by rw [← z, ← er]; exact List.mem_map.mpr ⟨r, mr, rfl⟩)
  have hfit := fit_ren g.fit (new := new) (by omega) S
  have img : ∀ q ∈ nodesR (renS new S t), mapNd (fun n => if n = new then x.n else n) q ∈ nodesR t := fun q m => by
    have := nodes_mapN (f := fun n => if n = new then x.n else n) hfit
    rw [hb] at this
    rw [this]
    exact List.mem_map.mpr ⟨q, m, rfl⟩
  have nmq : ∀ q ∈ nodesR (renS new S t), (mapNd (fun n => if n = new then x.n else n) q).2.1.nm = if q.2.1.nm = new then x.n else q.2.1.nm := fun q m => by
    obtain ⟨_, n, cs, e⟩ := walk_of_mem m
    show (mapN _ q.2.1).nm = _
    rw [e, nm_mapN]
    rfl
  have uq : ∀ q ∈ nodesR (renS new S t), (if q.2.1.nm = new then x.n else q.2.1.nm) ∉ (onWay q).map (fun n => if n = new then x.n else n) := fun q m => by
    have := g.un _ (img q m)
    rw [nmq q m, onWay_map] at this
    exact this
  have p1 : passes x.n new (renS new S t) = false := by
    rw [passes, List.any_eq_false]
    intro q m
    simp only [Bool.and_eq_true, decide_eq_true_eq, not_and]
    intro e1 e2
    have := uq q m
    rw [e1, if_neg xn] at this
    exact this (List.mem_map.mpr ⟨new, e2, if_pos rfl⟩)
  have p2 : passes new x.n (renS new S t) = false := by
    rw [passes, List.any_eq_false]
    intro q m
    simp only [Bool.and_eq_true, decide_eq_true_eq, not_and]
    intro e1 e2
    have := uq q m
    rw [if_pos e1] at this
    exact this (List.mem_map.mpr ⟨x.n, e2, if_neg xn⟩)
  have pm := sort_perm (rs ++ [Row.mk new x.o x.ws])
  have nd2 : ((((rs ++ [Row.mk new x.o x.ws]).mergeSort rowLe)).map (·.n)).Nodup := by
    refine ((pm.map (·.n)).nodup_iff).mpr ?_
    rw [List.map_append, List.nodup_append]
    exact ⟨g.nd, by simp, fun a ha b hb => by
      have : b = new := by simpa using hb
      subst this
      exact fun e => hn (e ▸ ha)⟩
  have ok2 : ∀ r ∈ (rs ++ [Row.mk new x.o x.ws]).mergeSort rowLe, r.Ok := fun r m => by
    rcases List.mem_append.mp (pm.mem_iff.mp m) with m | m
    · exact g.ok r m
    · rw [List.mem_singleton.mp m]
      have := g.ok x hx
      exact ⟨by show new.length ≤ 40; omega, this.w1, this.w2, this.m⟩
  have mx : x ∈ (rs ++ [Row.mk new x.o x.ws]).mergeSort rowLe := pm.mem_iff.mpr (List.mem_append_left _ hx)
  have mn : Row.mk new x.o x.ws ∈ (rs ++ [Row.mk new x.o x.ws]).mergeSort rowLe := pm.mem_iff.mpr (List.mem_append_right _ (List.mem_singleton.mpr rfl))
  refine ⟨hb, ?_, ⟨ok2, nd2, sort_pair _, (fun z => by rw [z] at mx; cases mx), ?_, hfit, ?_, ?_⟩, sort_out (x := Row.mk new x.o x.ws) g.so fun r m e => hn (List.mem_map.mpr ⟨r, m, e⟩)⟩
  · unfold canM
    have f1 := find_mem nd2 mx
    have f2 := find_mem nd2 mn
    rw [f1, f2, p1, p2]
    simp [xn]
  · rw [pm.length_eq, List.length_append, List.length_singleton]; omega
  · intro q m
    obtain ⟨r, mr, er⟩ := g.dec _ (img q m)
    rw [nmq q m] at er
    by_cases e : q.2.1.nm = new
    · exact ⟨_, mn, e.symm⟩
    · rw [if_neg e] at er
      exact ⟨r, pm.mem_iff.mpr (List.mem_append_left _ mr), er⟩
  · intro q m z
    have := uq q m
    exact this (List.mem_map.mpr ⟨_, z, rfl⟩)
end PL
/-! PL, part QF: the defs over trees. -/
namespace PL
open PySem PySem.Spec PyProof.Rows L2
abbrev nat (i : Nat) : PV := .int (i : Int)
def pathPv (p : List Nat) : PV := .tup (p.map nat)
def pairPv (q : Str × Nat) : PV := .tup [.str q.1, nat q.2]
def pairsPv (q : List (Str × Nat)) : PV := .tup (q.map pairPv)
def ndPv (path : List Nat) (pairs : List (Str × Nat)) (q : Nd) : PV := .tup [pathPv (path ++ q.1), q.2.1.pv, pairsPv (pairs ++ q.2.2)]
theorem node_pv {n : Str} {cs : List T} : (T.node n cs).pv = .tup [.str n, .tup (T.pvs cs)] := by rw [T.pv]
theorem leaf_pv {z : Str} : (T.leaf z).pv = .str z := by rw [T.pv]
theorem path_snoc {p : List Nat} {i : Nat} {st : Store} {Q : PV → Store → Prop} (h : p.length ≤ 1000) : Sat (pAdd (pathPv p) (.tup [.int (i : Int)]) st) Q = Q (pathPv (p ++ [i])) st := by
  unfold pathPv
  have : (p.map nat).length + [PV.int (i : Int)].length ≤ sizeLine := by rw [sizeLine_eq]; simp; omega
  rw [o_addT]
  exact propext ⟨fun h => by simpa using h.2, fun q => ⟨this, by simpa using q⟩⟩
theorem pairs_snoc {p : List (Str × Nat)} {n : Str} {i : Nat} {st : Store} {Q : PV → Store → Prop} (h : p.length ≤ 1000) : Sat (pAdd (pairsPv p) (.tup [.tup [.str n, .int (i : Int)]]) st) Q = Q (pairsPv (p ++ [(n, i)])) st := by
  unfold pairsPv
  have : (p.map pairPv).length + [PV.tup [.str n, .int (i : Int)]].length ≤ sizeLine := by rw [sizeLine_eq]; simp; omega
  rw [o_addT]
  exact propext ⟨fun h => by simpa [pairPv] using h.2, fun q => ⟨this, by simpa [pairPv] using q⟩⟩
/-! ### the law's nodes -/
theorem nodes_eq {c : Nat} : ∀ (n d : Nat) (t : T) (path : List Nat) (pairs : List (Str × Nat)) (st : Store), T.Fit c d t → d < n → (c + 1) ^ d ≤ 10000 → path.length + d ≤ 500 → pairs.length + d ≤ 500 →
    fuelF 5 f_law_nodes n [t.pv, pathPv path, pairsPv pairs] st = .ok (.lst ((nodesR t).map (ndPv path pairs))) st
  | 0, d, _, _, _, _, _, hn, _, _, _ => absurd hn (Nat.not_lt_zero _)
  | n + 1, _, .leaf z, path, pairs, st, _, _, _, _, _ => by
    refine det fun Q k => sat_body ?_
    unfold f_law_nodes
    simp only [List.map_cons, List.map_nil, List.length_cons, List.length_nil, Nat.reduceAdd, Nat.reduceSub, List.reduceReplicate, List.cons_append, List.nil_append, leaf_pv]
    rw [ss_seq, ss_if, sat_test, sat_args, sat_cons, sat_var rfl, sat_cons, sat_c, sat_nil, isi_s, sat_truth, if_pos rfl, ss_ret, sat_args, sat_nil, sat_lst]
    exact ⟨sl0, by simpa [nodesR] using k⟩
  | n + 1, _, .node m cs, path, pairs, st, .node (d := d) h1 h2 h3, hn, hb, hp, hq => by
    refine det fun Q k => sat_body ?_
    unfold f_law_nodes
    simp only [List.map_cons, List.map_nil, List.length_cons, List.length_nil, Nat.reduceAdd, Nat.reduceSub, List.reduceReplicate, List.cons_append, List.nil_append, node_pv]
    rw [ss_seq, ss_if, sat_test, sat_args, sat_cons, sat_var rfl, sat_cons, sat_c, sat_nil, isi_t, sat_truth, if_neg (by simp), ss_nil]
    rw [ss_seq, ss_set, sat_args, sat_cons, sat_args, sat_cons, sat_var rfl, sat_cons, sat_var rfl, sat_cons, sat_var rfl, sat_nil, sat_tup]
    refine ⟨sl3, ?_⟩
    rw [sat_nil, sat_lst]
    refine ⟨sl1, ?_⟩
    rw [ss_seq, ss_for, sat_iRange1, sat_args, sat_cons, sat_bin, sat_var rfl, sat_c, o_ixT, ixW_1, sat_nil, sat_one, o_lenT, o_rng]
    have hlen := nodes_len (T.Fit.node (n := m) h1 h2 h3)
    have hcl : cs.length ≤ 10000 := by
      have : cs.length + 1 ≤ (c + 1) ^ (d + 1) := by
        have h8 : 1 ≤ (c + 1) ^ d := Nat.pow_pos (Nat.succ_pos c)
        have h9 : 1 * (c + 1) ≤ (c + 1) ^ d * (c + 1) := Nat.mul_le_mul_right _ h8
        rw [Nat.pow_succ]
        omega
      omega
    refine ⟨by rw [T.pvs_len]; omega, ?_⟩
    refine for_invN (k := 0) (fun i e s => s = st ∧ ∃ a, e = ([some (.tup [.str m, .tup (T.pvs cs)]), some (pathPv path), some (pairsPv pairs), some (.lst (ndPv path pairs ([], .node m cs, []) :: (nodesRs m 0 (cs.take i)).map (ndPv path pairs))), a] : PEnv)) ⟨rfl, none, ?_⟩ ?_ ?_
    · simp [nodesRs, ndPv, node_pv]
    · rintro i v e s hv ⟨rfl, a, rfl⟩
      obtain ⟨hi, rfl⟩ := rngs_get hv
      have hi : i < cs.length := by rw [T.pvs_len] at hi; omega
      have hc := List.getElem?_eq_getElem hi
      rw [Nat.zero_add, Int.zero_add]
      refine ⟨_, rfl, ?_⟩
      rw [ss_set, sat_bin, sat_var rfl, sat_call, sat_cons, sat_bin, sat_bin, sat_var rfl, sat_c, o_ixT, ixW_1, sat_var rfl, o_ixT]
      refine ixW_of (T.pvs_at hc) ?_
      rw [sat_cons, sat_bin, sat_var rfl, sat_args, sat_cons, sat_var rfl, sat_nil, sat_tup]
      refine ⟨sl1, ?_⟩
      rw [path_snoc (by omega), sat_cons, sat_bin, sat_var rfl, sat_args, sat_cons, sat_args, sat_cons, sat_bin, sat_var rfl, sat_c, o_ixT, ixW_0, sat_cons, sat_var rfl, sat_nil, sat_tup]
      refine ⟨sl2, ?_⟩
      rw [sat_nil, sat_tup]
      refine ⟨sl1, ?_⟩
      rw [pairs_snoc (by omega), sat_nil]
      refine ⟨rfl, ?_⟩
      show Sat (fuelF 5 f_law_nodes n [cs[i].pv, pathPv (path ++ [i]), pairsPv (pairs ++ [(m, i)])] s) _
      have hpow : (c + 1) ^ d ≤ 10000 := Nat.le_trans (Nat.pow_le_pow_right (Nat.succ_pos c) (Nat.le_succ d)) hb
      rw [nodes_eq n d cs[i] (path ++ [i]) (pairs ++ [(m, i)]) s (h3 _ (List.getElem_mem hi)) (by omega) hpow (by simp; omega) (by simp; omega), sat_ok, o_addL]
      have e1 := nodesRs_take (n := m) hc
      have l1 : (nodesRs m 0 (cs.take (i + 1))).length ≤ (nodesR (T.node m cs)).length := by
        rw [nodesR, List.length_cons]
        have : nodesRs m 0 (cs.take (i + 1)) ++ nodesRs m (i + 1) (cs.drop (i + 1)) = nodesRs m 0 cs := by
          have key : ∀ (as bs : List T) (j : Nat), nodesRs m j (as ++ bs) = nodesRs m j as ++ nodesRs m (j + as.length) bs := by
            intro as
            induction as with
            | nil => intro bs j; simp [nodesRs]
            | cons x as ih =>
              intro bs j
              rw [List.cons_append, nodesRs, nodesRs, ih, List.append_assoc, List.length_cons]
              have : j + 1 + as.length = j + (as.length + 1) := by omega
              rw [this]
          have := key (cs.take (i + 1)) (cs.drop (i + 1)) 0
          rw [List.take_append_drop] at this
          rw [this]
          have : 0 + (cs.take (i + 1)).length = i + 1 := by rw [List.length_take]; omega
          rw [this]
        have := congrArg List.length this
        rw [List.length_append] at this
        omega
      have e2 : (nodesR cs[i]).map (ndPv (path ++ [i]) (pairs ++ [(m, i)])) = ((nodesR cs[i]).map (fun q => ((i :: q.1, q.2.1, (m, i) :: q.2.2) : Nd))).map (ndPv path pairs) := by
        rw [List.map_map]
        refine List.map_congr_left fun q _ => ?_
        simp [ndPv, Function.comp]
      rw [e2, List.cons_append, ← List.map_append, ← e1]
      refine ⟨?_, rfl, _, rfl⟩
      rw [e1, List.length_append, List.length_map] at l1
      rw [sizeLine_eq]
      simp only [List.length_cons, List.length_map]
      omega
    · rintro e s ⟨rfl, a, rfl⟩
      rw [rngs_len, Int.toNat_natCast, T.pvs_len, Nat.zero_add, List.take_length]
      rw [ss_ret, sat_var rfl]
      rw [nodesR, List.map_cons] at k
      exact k
/-! ### along a way -/
theorem walk_ix {cs : List T} {i : Nat} {c : T} {st : Store} {Q : PV → Store → Prop} (h : cs[i]? = some c) (q : Q c.pv st) : Sat (pIx (.tup (T.pvs cs)) (.int (i : Int)) st) Q := by
  rw [o_ixT]
  exact ixW_of (T.pvs_at h) q
theorem lt_len {cs : List T} {i : Nat} {c : T} (h : cs[i]? = some c) : i < cs.length := (List.getElem?_eq_some_iff.mp h).1
/-- 0 <= move < len(node[1]) -/
theorem chain_ok {e1 e2 e3 : EM} {env : PEnv} {st : Store} {i : Nat} {m : Str} {cs : List T} {c : T} (h : cs[i]? = some c) {a b : Nat} (ha : env[a]? = some (some (.int (i : Int)))) (hb : env[b]? = some (some (T.node m cs).pv)) :
    (tOrM (eTest (eArgs (pIsi) (aCons (eVar b) (aCons (eC (.con (.ty "str"))) aNil)))) (tNotM (eTest (eChain pLe pLt (eC (.int 0)) (eVar a) (eArgs (one pLen) (aCons (eBin pIx (eVar b) (eC (.int 1))) aNil)))))) env st = .ok false st := by
  refine det fun Q k => ?_
  rw [sat_or, sat_test, sat_args, sat_cons, sat_var hb, sat_cons, sat_c, sat_nil, node_pv, isi_t, sat_truth, if_neg (by simp), sat_not, sat_test, sat_chain, sat_c, sat_var ha, o_leI, decide_eq_false (by omega), Bool.not_false]
  show Sat (eArgs _ _ _ _) _
  rw [sat_args, sat_cons, sat_bin, sat_var hb, sat_c, node_pv, o_ixT, ixW_1, sat_nil, sat_one, o_lenT, o_ltI, T.pvs_len, decide_eq_true (by have := lt_len h; omega), sat_truth]
  exact k
theorem node_at_eq {t x : T} {p : List Nat} {pr : List (Str × Nat)} {st : Store} (w : Walk t p pr x) (hp : p.length ≤ 1000) : m_node_at [t.pv, pathPv p] st = .ok x.pv st := by
  refine det fun Q k => sat_body ?_
  unfold f_node_at
  simp only [List.map_cons, List.map_nil, List.length_cons, List.length_nil, Nat.reduceAdd, Nat.reduceSub, List.reduceReplicate, List.cons_append, List.nil_append]
  rw [ss_seq, ss_set, sat_var rfl, ss_seq, ss_for, sat_iVal, sat_var rfl]
  have hd : pathPv p = .tup (p.map nat) := rfl
  rw [hd, o_itT]
  clear hd
  have key : ∀ (r0 r1 : Option PV) {t x : T} {p : List Nat} {pr : List (Str × Nat)} (w : Walk t p pr x) (a : Option PV) (N : PEnv → Store → Prop) (R : PV → Store → Prop), (∀ a, N [r0, r1, some x.pv, a] st) → SatS (sForL (.one 3) (sSeq (sIf (tOrM (eTest (eArgs (pIsi) (aCons (eVar 2) (aCons (eC (.con (.ty "str"))) aNil)))) (tNotM (eTest (eChain pLe pLt (eC (.int 0)) (eVar 3) (eArgs (one pLen) (aCons (eBin pIx (eVar 2) (eC (.int 1))) aNil)))))) sStuckM sNil)
    (sSet 2 (eBin pIx (eBin pIx (eVar 2) (eC (.int 1))) (eVar 3)))) (Itms.ok ⟨p.map nat, none⟩) (p.map nat) [r0, r1, some t.pv, a] st) N R := by
    intro r0 r1 t x p pr w
    induction w with
    | nil => intro a N R h; rw [List.map_nil, ss_forL_nil trivial]; exact h a
    | @cons n cs i c x p pr hi w ih =>
      intro a N R h
      rw [List.map_cons]
      refine ss_forL_cons trivial ⟨[r0, r1, some (T.node n cs).pv, some (nat i)], rfl, ?_⟩
      rw [ss_ifb (chain_ok (e1 := eC .non) (e2 := eC .non) (e3 := eC .non) hi rfl rfl), if_neg (by simp), ss_nil, ss_set, sat_bin, sat_bin, sat_var rfl, sat_c, node_pv, o_ixT, ixW_1, sat_var rfl]
      refine walk_ix hi ?_
      exact ih (some (nat i)) N R h
  refine key _ _ w none _ _ fun a => ?_
  rw [ss_ret, sat_var rfl]
  exact k
theorem above_ok {t x : T} {p : List Nat} {pr : List (Str × Nat)} {st : Store} {Q : PV → Store → Prop} (w : Walk t p pr x) (hp : p.length ≤ 1000) (k : ∀ s, Gr [] st s → Q (pairsPv pr) s) : Sat (m_above [t.pv, pathPv p] st) Q := by
  refine sat_body ?_
  unfold f_above
  simp only [List.map_cons, List.map_nil, List.length_cons, List.length_nil, Nat.reduceAdd, Nat.reduceSub, List.reduceReplicate, List.cons_append, List.nil_append]
  rw [ss_seq, ss_set, sat_args, sat_nil, sat_loc]
  refine ⟨sl0, ?_⟩
  have h0 : (st ++ [PO.lst []])[st.length]? = some (.lst (([] : List (Str × Nat)).map pairPv)) := by simp
  have g0 : Gr [] st (st ++ [PO.lst []]) := .app
  generalize st ++ [PO.lst []] = s0 at *
  generalize hl : st.length = l at *
  rw [ss_seq, ss_set, sat_var rfl, ss_seq, ss_for, sat_iVal, sat_var rfl]
  have hd : pathPv p = .tup (p.map nat) := rfl
  rw [hd, o_itT]
  clear hd
  have key : ∀ (r0 r1 : Option PV) {t x : T} {p : List Nat} {pr : List (Str × Nat)} (w : Walk t p pr x) (acc : List (Str × Nat)) (a : Option PV) (s : Store) (N : PEnv → Store → Prop) (R : PV → Store → Prop), acc.length + p.length ≤ 1000 → s[l]? = some (.lst (acc.map pairPv)) →
      (∀ a s', s'[l]? = some (.lst ((acc ++ pr).map pairPv)) → Gr [l] s s' → N [r0, r1, some (.loc l), some x.pv, a] s') → SatS (sForL (.one 4) (sSeq (sIf (tOrM (eTest (eArgs (pIsi) (aCons (eVar 3) (aCons (eC (.con (.ty "str"))) aNil)))) (tNotM (eTest (eChain pLe pLt (eC (.int 0)) (eVar 4) (eArgs (one pLen) (aCons (eBin pIx (eVar 3) (eC (.int 1))) aNil)))))) sStuckM sNil)
    (sSeq (sExpr (eMeth isListP pAppend (eVar 2) (aCons (eArgs mkTup (aCons (eBin pIx (eVar 3) (eC (.int 0))) (aCons (eVar 4) aNil))) aNil)))
    (sSet 3 (eBin pIx (eBin pIx (eVar 3) (eC (.int 1))) (eVar 4))))) (Itms.ok ⟨p.map nat, none⟩) (p.map nat) [r0, r1, some (.loc l), some t.pv, a] s) N R := by
    intro r0 r1 t x p pr w
    induction w with
    | nil => intro acc a s N R hb hs h; rw [List.map_nil, ss_forL_nil trivial]; exact h a s (by simpa using hs) .refl
    | @cons n cs i c x p pr hi w ih =>
      intro acc a s N R hb hs h
      rw [List.map_cons]
      refine ss_forL_cons trivial ⟨[r0, r1, some (.loc l), some (T.node n cs).pv, some (nat i)], rfl, ?_⟩
      rw [ss_ifb (chain_ok (e1 := eC .non) (e2 := eC .non) (e3 := eC .non) hi rfl rfl), if_neg (by simp), ss_nil, ss_seq, ss_expr, sat_meth, sat_var rfl]
      refine ⟨o_isL hs, ?_⟩
      rw [sat_cons, sat_args, sat_cons, sat_bin, sat_var rfl, sat_c, node_pv, o_ixT, ixW_0, sat_cons, sat_var rfl, sat_nil, sat_tup]
      refine ⟨sl2, ?_⟩
      simp only [List.length_cons] at hb
      rw [sat_nil, o_app hs]
      refine ⟨by rw [sizeLine_eq, List.length_map]; omega, ?_⟩
      rw [ss_set, sat_bin, sat_bin, sat_var rfl, sat_c, o_ixT, ixW_1, sat_var rfl]
      refine walk_ix hi ?_
      refine ih (acc ++ [(n, i)]) (some (nat i)) _ N R (by simp; omega) (by rw [List.getElem?_set_self (lt_of_some hs)]; simp [pairPv]) fun a s' h1 h2 => h a s' (by rw [List.append_assoc] at h1; exact h1) ((Gr.set (by simp)).trans h2)
  refine key _ _ w [] none s0 _ _ (by simp; omega) h0 fun a s' h1 h2 => ?_
  rw [ss_ret, sat_args, sat_cons, sat_var rfl, sat_nil, sat_one, o_tupP h1]
  refine k s' ?_
  exact (g0.mono (by simp)).trans h2 |>.cut (by
    intro j hj hlt'
    simp only [List.mem_singleton] at hj
    omega)
end PL
/-! PL, part QG: more defs over trees. -/
namespace PL
open PySem PySem.Spec PyProof.Rows L2
/-! ### lists that were made behind st0: finished, or at a new place -/
def Rd (st0 s : Store) (v : PV) (xs : List PV) : Prop := v = .lst xs ∨ ∃ l, v = .loc l ∧ st0.length ≤ l ∧ s[l]? = some (.lst xs)
theorem Rd.seq {st0 s : Store} {v : PV} {xs : List PV} (h : Rd st0 s v xs) : seqOf s v = some (false, xs) := by
  rcases h with rfl | ⟨l, rfl, _, e⟩
  · rfl
  · unfold seqOf; simp only [e]
theorem Rd.gr {st0 s s' : Store} {v : PV} {xs : List PV} {L : List Nat} (h : Rd st0 s v xs) (g : Gr L s s') (n : ∀ k ∈ L, k < st0.length) : Rd st0 s' v xs := by
  rcases h with rfl | ⟨l, rfl, hl, e⟩
  · exact .inl rfl
  · exact .inr ⟨l, rfl, hl, g.at' e fun m => by have := n l m; omega⟩
theorem Rd.iter {st0 s : Store} {v : PV} {xs : List PV} {Qx : Itms → Store → Prop} (h : Rd st0 s v xs) (k : ∀ p : Itms, p.xs = xs → (∀ s', Rd st0 s' v xs → p.ok s') → Qx p s) : Sat (pIter v s) Qx := by
  rcases h with rfl | ⟨l, rfl, hl, e⟩
  · rw [o_itL]; exact k _ rfl fun _ _ => trivial
  · rw [o_itP e]
    refine k _ rfl fun s' h' => ?_
    rcases h' with z | ⟨l', z, _, e'⟩
    · cases z
    · cases z; exact e'
/-! ### paths_of -/
def pathsR (nm : Str) (t : T) : List (List Nat) := ((nodesR t).filter fun q => decide (q.2.1.nm = nm)).map (·.1)
def pathsRs (nm n : Str) (i : Nat) (cs : List T) : List (List Nat) := ((nodesRs n i cs).filter fun q => decide (q.2.1.nm = nm)).map (·.1)
theorem pathsRs_take {nm n : Str} {cs : List T} {j : Nat} {c : T} (h : cs[j]? = some c) : pathsRs nm n 0 (cs.take (j + 1)) = pathsRs nm n 0 (cs.take j) ++ (pathsR nm c).map (j :: ·) := by
  unfold pathsRs pathsR
  rw [nodesRs_take h, List.filter_append, List.map_append, List.filter_map, List.map_map, List.map_map]
  congr 1
theorem pathsR_len {nm : Str} {t : T} {c d : Nat} (hf : T.Fit c d t) : (pathsR nm t).length ≤ (c + 1) ^ d := by
  unfold pathsR
  rw [List.length_map]
  exact Nat.le_trans (List.length_filter_le _ _) (nodes_len hf)
theorem pathsRs_le {nm n : Str} {cs : List T} {i : Nat} : ∀ j, (pathsRs nm n i (cs.take j)).length ≤ (pathsRs nm n i cs).length := by
  intro j
  have key : ∀ (as bs : List T) (j : Nat), nodesRs n j (as ++ bs) = nodesRs n j as ++ nodesRs n (j + as.length) bs := by
    intro as
    induction as with
    | nil => intro bs j; simp [nodesRs]
    | cons x as ih =>
      intro bs j
      rw [List.cons_append, nodesRs, nodesRs, ih, List.append_assoc, List.length_cons]
      have : j + 1 + as.length = j + (as.length + 1) := by omega
      rw [this]
  have := key (cs.take j) (cs.drop j) i
  rw [List.take_append_drop] at this
  unfold pathsRs
  rw [this, List.filter_append, List.map_append, List.length_append]
  omega
theorem fit_bound {c d : Nat} {m : Str} {cs : List T} (hb : (c + 1) ^ (d + 1) ≤ 10000) (h2 : cs.length ≤ c) : cs.length ≤ 10000 ∧ (c + 1) ^ d ≤ 10000 := by
  have h8 : 1 ≤ (c + 1) ^ d := Nat.pow_pos (Nat.succ_pos c)
  have h9 : 1 * (c + 1) ≤ (c + 1) ^ d * (c + 1) := Nat.mul_le_mul_right _ h8
  have h10 : (c + 1) ^ d ≤ (c + 1) ^ (d + 1) := Nat.pow_le_pow_right (Nat.succ_pos c) (Nat.le_succ d)
  rw [Nat.pow_succ] at hb
  rw [Nat.pow_succ] at h10
  omega
theorem paths_ok {c : Nat} {nm : Str} : ∀ (n d : Nat) (t : T) (st : Store) (Q : PV → Store → Prop), T.Fit c d t → d < n → (c + 1) ^ d ≤ 10000 → d ≤ 100 → (∀ v s, Rd st s v ((pathsR nm t).map pathPv) → Gr [] st s → Q v s) →
    Sat (fuelF 6 f_paths_of n [t.pv, .str nm] st) Q
  | 0, d, _, _, _, _, hn, _, _, _ => absurd hn (Nat.not_lt_zero _)
  | n + 1, _, .leaf z, st, Q, _, _, _, _, k => by
    refine sat_body ?_
    unfold f_paths_of
    simp only [List.map_cons, List.map_nil, List.length_cons, List.length_nil, Nat.reduceAdd, Nat.reduceSub, List.reduceReplicate, List.cons_append, List.nil_append, leaf_pv]
    rw [ss_seq, ss_if, sat_test, sat_args, sat_cons, sat_var rfl, sat_cons, sat_c, sat_nil, isi_s, sat_truth, if_pos rfl, ss_ret, sat_args, sat_nil, sat_lst]
    exact ⟨sl0, k _ _ (.inl (by simp [pathsR, nodesR])) .refl⟩
  | n + 1, _, .node m cs, st, Q, .node (d := d) h1 h2 h3, hn, hb, hd, k => by
    have hpl := pathsR_len (nm := nm) (T.Fit.node (n := m) h1 h2 h3)
    have hep : pathsR nm (.node m cs) = (if m = nm then [[]] else []) ++ pathsRs nm m 0 cs := by
      unfold pathsR pathsRs
      rw [nodesR, List.filter_cons]
      by_cases e : m = nm
      · simp [T.nm, e]
      · simp [T.nm, e]
    have bnd := fit_bound (m := m) hb h2
    refine sat_body ?_
    unfold f_paths_of
    simp only [List.map_cons, List.map_nil, List.length_cons, List.length_nil, Nat.reduceAdd, Nat.reduceSub, List.reduceReplicate, List.cons_append, List.nil_append, node_pv]
    rw [ss_seq, ss_if, sat_test, sat_args, sat_cons, sat_var rfl, sat_cons, sat_c, sat_nil, isi_t, sat_truth, if_neg (by simp), ss_nil]
    rw [ss_seq, ss_set, sat_args, sat_nil, sat_loc]
    refine ⟨sl0, ?_⟩
    have h0 : (st ++ [PO.lst []])[st.length]? = some (.lst []) := by simp
    have g0 : Gr [] st (st ++ [PO.lst []]) := .app
    generalize st ++ [PO.lst []] = s0 at *
    generalize hl : st.length = l at *
    refine seq_mid (fun e s => e = ([some (.tup [.str m, .tup (T.pvs cs)]), some (.str nm), some (.loc l), none, none, none] : PEnv) ∧ s[l]? = some (.lst ((if m = nm then [[]] else []).map pathPv)) ∧ Gr [l] s0 s) ?_ ?_
    · rw [ss_if, sat_test, sat_bin, sat_bin, sat_var rfl, sat_c, o_ixT, ixW_0, sat_var rfl, o_eqS, sat_truth]
      by_cases e : m = nm
      · rw [decide_eq_true e, if_pos rfl, if_pos e, ss_expr, sat_meth, sat_var rfl]
        refine ⟨o_isL h0, ?_⟩
        rw [sat_cons, sat_args, sat_nil, sat_tup]
        refine ⟨sl0, ?_⟩
        rw [sat_nil, o_app h0]
        exact ⟨by rw [sizeLine_eq]; simp, rfl, by rw [List.getElem?_set_self (lt_of_some h0)]; rfl, .set (by simp)⟩
      · rw [decide_eq_false e, if_neg (by simp), if_neg e, ss_nil]
        exact ⟨rfl, h0, .refl⟩
    rintro e s1 ⟨rfl, hs1, g1⟩
    generalize hhd : (if m = nm then [[]] else [] : List (List Nat)) = hd at *
    have hdl : hd.length ≤ 1 := by subst hhd; split <;> simp
    refine seq_mid (fun e s => (∃ a b c, e = ([some (.tup [.str m, .tup (T.pvs cs)]), some (.str nm), some (.loc l), a, b, c] : PEnv)) ∧ s[l]? = some (.lst ((hd ++ pathsRs nm m 0 cs).map pathPv)) ∧ Gr [l] s0 s) ?_ ?_
    · rw [ss_for]
      unfold iEnumM
      rw [sat_bind, sat_bin, sat_var rfl, sat_c, o_ixT, ixW_1]
      show Sat (pEnum (.tup (T.pvs cs)) s1) _
      rw [show ∀ Qx : Itms → Store → Prop, Sat (pEnum (.tup (T.pvs cs)) s1) Qx = Qx ⟨enums (T.pvs cs), none⟩ s1 from fun _ => sat_of rfl]
      refine for_invN (k := 0) (fun i e s => (∃ a b c, e = ([some (.tup [.str m, .tup (T.pvs cs)]), some (.str nm), some (.loc l), a, b, c] : PEnv)) ∧ s[l]? = some (.lst ((hd ++ pathsRs nm m 0 (cs.take i)).map pathPv)) ∧ Gr [l] s0 s) ⟨⟨_, _, _, rfl⟩, by simpa [pathsRs, nodesRs] using hs1, g1⟩ ?_ ?_
      · rintro i v e s hv ⟨⟨a, b, cc, rfl⟩, hs, g⟩
        obtain ⟨x, hx, rfl⟩ : ∃ x, cs[i]? = some x ∧ v = .tup [.int (i : Nat), x.pv] := by
          unfold enums at hv
          rw [List.getElem?_map, List.getElem?_zipIdx] at hv
          cases e : (T.pvs cs)[i]? with
          | none => rw [e] at hv; cases hv
          | some y =>
            obtain ⟨x, hx, rfl⟩ := T.pvs_get e
            rw [e] at hv
            simp only [Option.map_some, Option.some.injEq, Nat.zero_add] at hv
            exact ⟨x, hx, hv.symm⟩
        rw [Nat.zero_add] at hs ⊢
        refine ⟨_, rfl, ?_⟩
        rw [ss_for, sat_iVal, sat_call, sat_cons, sat_var rfl, sat_cons, sat_var rfl, sat_nil]
        refine ⟨rfl, ?_⟩
        show Sat (fuelF 6 f_paths_of n [x.pv, .str nm] s) _
        refine paths_ok n d x s _ (h3 _ (List.mem_of_getElem? hx)) (by omega) bnd.2 (by omega) fun v s2 rd g2 => ?_
        have hll := lt_of_some hs
        refine rd.iter fun p px pok => ?_
        rw [px]
        have hs2 := g2.at' hs (by simp)
        have lim := pathsRs_le (nm := nm) (n := m) (cs := cs) (i := 0) (i + 1)
        rw [pathsRs_take hx, List.length_append, List.length_map] at lim
        have lim2 : (hd ++ pathsRs nm m 0 cs).length ≤ 10000 := by rw [← hep]; omega
        rw [List.length_append] at lim2
        refine for_invN (k := 0) (fun j e s' => (∃ b c, e = ([some (.tup [.str m, .tup (T.pvs cs)]), some (.str nm), some (.loc l), some (nat i), b, c] : PEnv)) ∧ s'[l]? = some (.lst ((hd ++ pathsRs nm m 0 (cs.take i) ++ ((pathsR nm x).take j).map (i :: ·)).map pathPv)) ∧ Gr [l] s2 s' ∧ Rd s s' v ((pathsR nm x).map pathPv)) ⟨⟨_, _, rfl⟩, by simpa using hs2, .refl, rd⟩ ?_ ?_ (fun j e s' h => pok s' h.2.2.2)
        · rintro j y e s' hy ⟨⟨b, cc, rfl⟩, hs', g', rd'⟩
          rw [List.getElem?_map] at hy
          cases ey : (pathsR nm x)[j]? with
          | none => rw [ey] at hy; cases hy
          | some pp =>
            rw [ey] at hy
            cases hy
            have hj : j < (pathsR nm x).length := (List.getElem?_eq_some_iff.mp ey).1
            have hpp : pp.length ≤ 100 := by
              have := List.mem_of_getElem? ey
              unfold pathsR at this
              obtain ⟨q, mq, rfl⟩ := List.mem_map.mp this
              have := ((walk_of_mem (List.mem_filter.mp mq).1).1.deep (h3 _ (List.mem_of_getElem? hx))).1
              omega
            rw [Nat.zero_add] at hs' ⊢
            refine ⟨_, rfl, ?_⟩
            rw [ss_expr, sat_meth, sat_var rfl]
            refine ⟨o_isL hs', ?_⟩
            rw [sat_cons, sat_bin, sat_args, sat_cons, sat_var rfl, sat_nil, sat_tup]
            refine ⟨sl1, ?_⟩
            rw [sat_var rfl]
            show Sat (pAdd (.tup [nat i]) (.tup (pp.map nat)) s') _
            rw [o_addT]
            refine ⟨by rw [sizeLine_eq]; simp; omega, ?_⟩
            rw [sat_nil, o_app hs']
            have gs : Gr [l] s' (s'.set l (.lst ((hd ++ pathsRs nm m 0 (cs.take i) ++ ((pathsR nm x).take j).map (i :: ·)).map pathPv ++ [.tup ([nat i] ++ pp.map nat)]))) := .set (by simp)
            refine ⟨?_, ⟨_, _, rfl⟩, ?_, g'.trans gs, rd'.gr gs (by simp; exact hll)⟩
            · rw [sizeLine_eq, List.length_map, List.length_append, List.length_append, List.length_map, List.length_take]
              omega
            · rw [List.getElem?_set_self (lt_of_some hs'), List.take_add_one, ey]
              simp [pathPv]
        · rintro e s' ⟨⟨b, cc, rfl⟩, hs', g', rd'⟩
          rw [List.length_map, Nat.zero_add, List.take_length, List.append_assoc, ← pathsRs_take hx] at hs'
          exact ⟨⟨_, _, _, rfl⟩, hs', g.trans ((g2.mono (by simp)).trans g')⟩
      · rintro e s ⟨⟨a, b, cc, rfl⟩, hs, g⟩
        have e1 : (enums (T.pvs cs)).length = cs.length := by simp [enums, T.pvs_len]
        rw [e1, Nat.zero_add, List.take_length] at hs
        exact ⟨⟨_, _, _, rfl⟩, hs, g⟩
    rintro e s ⟨⟨a, b, cc, rfl⟩, hs, g⟩
    rw [ss_ret, sat_var rfl]
    rw [← hep] at hs
    refine k _ s (.inr ⟨l, rfl, by omega, hs⟩) ?_
    exact ((g0.mono (by simp)).trans g).cut (by
      intro j hj hlt'
      simp only [List.mem_singleton] at hj
      omega)
end PL
/-! PL, part QH: renaming, rows. -/
namespace PL
open PySem PySem.Spec PyProof.Rows L2
theorem cut_tail {α : Type} {x : α} {xs : List α} : (x :: xs).drop (HT.sIx (x :: xs).length 0 (some 1)) = xs := by
  have : HT.sIx (x :: xs).length 0 (some 1) = 1 := by
    unfold HT.sIx
    first | rfl | simp
  rw [this]; rfl
theorem sIx_of {n i : Nat} (h : i ≤ n) : HT.sIx n 0 (some (i : Int)) = i ∧ HT.sIx n n (some (i : Int)) = i := by
  unfold HT.sIx
  constructor <;> (simp; split <;> omega)
theorem cutP_1 {x : PV} {xs : List PV} : cutP (x :: xs) (some 1) none = xs := by
  unfold cutP
  have h1 := (sIx_of (n := (x :: xs).length) (i := 1) (by simp)).1
  have h1 : HT.sIx (x :: xs).length 0 (some 1) = 1 := h1
  have h2 : HT.sIx (x :: xs).length (x :: xs).length none = (x :: xs).length := by unfold HT.sIx; first | rfl | simp
  rw [h1, h2, List.drop_one, List.tail_cons, List.take_of_length_le (by simp)]
theorem cutP_lo {xs : List PV} {i : Nat} (h : i ≤ xs.length) : cutP xs none (some (i : Int)) = xs.take i := by
  unfold cutP
  have h2 := (sIx_of h).2
  have h1 : HT.sIx xs.length 0 none = 0 := by unfold HT.sIx; first | rfl | simp
  rw [h1, h2, List.drop_zero, Nat.sub_zero]
theorem cutP_hi {xs : List PV} {i : Nat} (h : i ≤ xs.length) : cutP xs (some (i : Int)) none = xs.drop i := by
  unfold cutP
  have h1 := (sIx_of h).1
  have h2 : HT.sIx xs.length xs.length none = xs.length := by unfold HT.sIx; first | rfl | simp
  rw [h1, h2, List.take_of_length_le (by simp)]
theorem o_slT {xs : List PV} {lo hi : Option Int} {st : Store} {Q : PV → Store → Prop} : Sat (pSl (.tup xs) lo hi st) Q = Q (.tup (cutP xs lo hi)) st := sat_of rfl
theorem isDs_paths (p : List Nat) : isDs (p.map nat) = true := by induction p <;> simp_all [isDs, isD]
theorem depth_path (p : List Nat) : (toD (pathPv p)).depth ≤ 1 := by
  unfold pathPv
  have : PyData.depthAll (toDs (p.map nat)) = 0 := by induction p <;> simp_all [toDs, toD, PyData.depthAll, PyData.depth]
  simp [toD, PyData.depth, this]
theorem eqv_path : ∀ (p q : List Nat), PyData.eqvAll (toDs (p.map nat)) (toDs (q.map nat)) = decide (p = q)
  | [], [] => by simp [toDs, PyData.eqvAll]
  | [], _ :: _ => by simp [toDs, PyData.eqvAll]
  | _ :: _, [] => by simp [toDs, PyData.eqvAll]
  | x :: xs, y :: ys => by
    rw [List.map_cons, List.map_cons, toDs, toDs, PyData.eqvAll, eqv_path xs ys]
    simp only [toD, PyData.eqv]
    by_cases h : x = y <;> by_cases h' : xs = ys <;> simp [h, h'] <;> omega
theorem eqv_pathPv (p q : List Nat) : PyData.eqv (toD (pathPv p)) (toD (pathPv q)) = decide (p = q) := by
  unfold pathPv
  simp only [toD, PyData.eqv, eqv_path]
/-- path in paths, of values that are read -/
theorem o_inPaths {p : List Nat} {ps : List (List Nat)} {v : PV} {b : Bool} {st : Store} {Q : PV → Store → Prop} (h : seqOf st v = some (b, ps.map pathPv)) : Sat (pIn (pathPv p) v st) Q = Q (.bl (decide (p ∈ ps))) st ∧ Sat (pNotIn (pathPv p) v st) Q = Q (.bl (!decide (p ∈ ps))) st := by
  have d1 : isD (pathPv p) = true := by unfold pathPv; simp [isD, isDs_paths]
  have d2 : isDs (ps.map pathPv) = true := by
    clear h
    induction ps with
    | nil => rfl
    | cons q ps ih => rw [List.map_cons, isDs, ih]; unfold pathPv; simp [isD, isDs_paths]
  have d3 : min (PyData.depthAll (toDs (ps.map pathPv))) (toD (pathPv p)).depth ≤ 60 := by
    have := depth_path p
    omega
  have e : inD (pathPv p) (ps.map pathPv) = decide (p ∈ ps) := by
    unfold inD
    rw [List.any_map, Bool.eq_iff_iff]
    simp only [List.any_eq_true, Function.comp, decide_eq_true_eq, eqv_pathPv]
    constructor
    · rintro ⟨y, m, rfl⟩; exact m
    · exact fun m => ⟨p, m, rfl⟩
  have e1 : pIn (pathPv p) v st = .ok (.bl (decide (p ∈ ps))) st := by
    unfold pIn pathPv
    simp only
    have h' := h
    rw [h']
    simp only
    rw [if_pos ⟨d1, d2, d3⟩]
    have := e
    unfold pathPv at this ⊢
    rw [this]
  have e2 : pNotIn (pathPv p) v st = .ok (.bl (!decide (p ∈ ps))) st := by
    unfold pNotIn pathPv
    simp only
    have h' := h
    rw [h']
    simp only
    rw [if_pos ⟨d1, d2, d3⟩]
    have := e
    unfold pathPv at this ⊢
    rw [this]
  exact ⟨by rw [e1, sat_ok], by rw [e2, sat_ok]⟩
/-! ### replaced -/
theorem o_eqPath {p q : List Nat} {st : Store} {Q : PV → Store → Prop} : Sat (pEq (pathPv p) (pathPv q) st) Q = Q (.bl (decide (p = q))) st := by
  have d1 : ∀ p : List Nat, isD (pathPv p) = true := fun p => by unfold pathPv; simp [isD, isDs_paths]
  unfold pEq
  rw [if_pos ⟨d1 p, d1 q, by have := depth_path p; omega⟩, sat_ok, eqv_pathPv]
theorem replaced_eq {y : T} : ∀ {t x : T} {p : List Nat} {pr : List (Str × Nat)} (n : Nat) (st : Store), Walk t p pr x → p.length < n → p.length ≤ 1000 → T.Fit 10 10 t → fuelF 6 f_replaced n [t.pv, pathPv p, y.pv] st = .ok (setAt y p t).pv st
  | _, _, p, _, 0, _, _, hn, _, _ => absurd hn (Nat.not_lt_zero _)
  | t, _, _, _, n + 1, st, .nil, _, _, _ => by
    refine det fun Q k => sat_body ?_
    unfold f_replaced
    simp only [List.map_cons, List.map_nil, List.length_cons, List.length_nil, Nat.reduceAdd, Nat.reduceSub, List.reduceReplicate, List.cons_append, List.nil_append]
    rw [ss_seq, ss_if, sat_test, sat_bin, sat_var rfl, sat_args, sat_nil, sat_tup]
    refine ⟨sl0, ?_⟩
    show Sat (pEq (pathPv []) (pathPv []) st) _
    rw [o_eqPath, decide_eq_true rfl, sat_truth, if_pos rfl, ss_ret, sat_var rfl]
    rw [setAt] at k
    exact k
  | _, _, _, _, n + 1, st, .cons (n := m) (cs := cs) (i := i) (c := c) (p := p) h w, hn, hl, .node h1 h2 h3 => by
    refine det fun Q k => sat_body ?_
    unfold f_replaced
    simp only [List.map_cons, List.map_nil, List.length_cons, List.length_nil, Nat.reduceAdd, Nat.reduceSub, List.reduceReplicate, List.cons_append, List.nil_append]
    have hi := lt_len h
    have hi2 : i < (T.pvs cs).length := by rw [T.pvs_len]; exact hi
    simp only [List.length_cons] at hn hl
    rw [ss_seq, ss_if, sat_test, sat_bin, sat_var rfl, sat_args, sat_nil, sat_tup]
    refine ⟨sl0, ?_⟩
    show Sat (pEq (pathPv (i :: p)) (pathPv []) st) _
    rw [o_eqPath, decide_eq_false (by simp), sat_truth, if_neg (by simp), ss_nil]
    have hpv : pathPv (i :: p) = .tup (nat i :: p.map nat) := rfl
    rw [ss_seq, ss_set, sat_bin, sat_var rfl, sat_c, hpv, o_ixT, ixW_0]
    rw [ss_ifb (chain_ok (e1 := eC .non) (e2 := eC .non) (e3 := eC .non) (m := m) h rfl rfl), if_neg (by simp), ss_nil]
    rw [ss_seq, ss_set, sat_bin, sat_var rfl, sat_c, node_pv, o_ixT, ixW_1]
    rw [ss_seq, ss_set, sat_call, sat_cons, sat_bin, sat_var rfl, sat_var rfl]
    refine walk_ix h ?_
    rw [sat_cons, sat_sl, sat_var rfl, sat_oSome, sat_c]
    show Sat (oNone _ _) _
    rw [sat_oNone, o_slT, cutP_1, sat_cons, sat_var rfl, sat_nil]
    refine ⟨rfl, ?_⟩
    show Sat (fuelF 6 f_replaced n [c.pv, pathPv p, y.pv] st) _
    have hfc : T.Fit 10 10 c := (h3 _ (List.mem_of_getElem? h)).up
    rw [replaced_eq n st w (by omega) (by omega) hfc, sat_ok]
    rw [ss_ret, sat_args, sat_cons, sat_bin, sat_var rfl, sat_c, o_ixT, ixW_0, sat_cons, sat_bin, sat_bin, sat_sl, sat_var rfl, sat_oNone, sat_oSome, sat_var rfl]
    show Sat (pSl _ _ (some (i : Int)) st) _
    rw [o_slT, cutP_lo (by omega), sat_args, sat_cons, sat_var rfl, sat_nil, sat_tup]
    refine ⟨sl1, ?_⟩
    rw [o_addT]
    refine ⟨by rw [sizeLine_eq, List.length_take, T.pvs_len]; simp; omega, ?_⟩
    rw [sat_sl, sat_var rfl, sat_oSome, sat_bin, sat_var rfl, sat_c, o_addI]
    show Sat (oNone _ _) _
    rw [sat_oNone]
    have e1 : ((i : Int) + 1) = ((i + 1 : Nat) : Int) := by omega
    rw [e1, o_slT, cutP_hi (by omega), o_addT]
    refine ⟨by rw [sizeLine_eq, List.length_append, List.length_take, List.length_drop, T.pvs_len]; simp; omega, ?_⟩
    rw [sat_nil, sat_tup]
    refine ⟨sl2, ?_⟩
    have e2 : (T.pvs cs).take i ++ [(setAt y p c).pv] ++ (T.pvs cs).drop (i + 1) = T.pvs (cs.modify i (setAt y p)) := by
      rw [T.pvs_map, T.pvs_map]
      refine List.ext_getElem? fun j => ?_
      rw [List.getElem?_map, List.getElem?_modify]
      rcases Nat.lt_trichotomy j i with q | q | q
      · rw [List.getElem?_append_left (by simp; omega), List.getElem?_append_left (by simp; omega), List.getElem?_take_of_lt q, List.getElem?_map]
        simp [show ¬ i = j by omega]
      · subst q
        rw [List.getElem?_append_left (by simp; omega), List.getElem?_append_right (by simp; omega), h]
        have : j - ((cs.map T.pv).take j).length = 0 := by simp; omega
        rw [this]
        simp
      · rw [List.getElem?_append_right (by simp; omega), List.getElem?_drop, List.getElem?_map]
        have : i + 1 + (j - ((cs.map T.pv).take i ++ [(setAt y p c).pv]).length) = j := by simp; omega
        rw [this]
        simp [show ¬ i = j by omega]
    rw [e2]
    rw [setAt, node_pv] at k
    exact k
/-! ### renaming by names -/
theorem renamed_eq {other name : Str} {c : Nat} : ∀ (n d : Nat) (t : T) (st : Store), T.Fit c d t → d < n → c ≤ 1000 → fuelF 5 f_renamed_nodes n [t.pv, .str other, .str name] st = .ok (mapN (fun m => if m = other then name else m) t).pv st
  | 0, d, _, _, _, hn, _ => absurd hn (Nat.not_lt_zero _)
  | n + 1, _, .leaf z, st, _, _, _ => by
    refine det fun Q k => sat_body ?_
    unfold f_renamed_nodes
    simp only [List.map_cons, List.map_nil, List.length_cons, List.length_nil, Nat.reduceAdd, Nat.reduceSub, List.reduceReplicate, List.cons_append, List.nil_append, leaf_pv]
    rw [ss_seq, ss_if, sat_test, sat_args, sat_cons, sat_var rfl, sat_cons, sat_c, sat_nil, isi_s, sat_truth, if_pos rfl, ss_ret, sat_var rfl]
    rw [mapN, leaf_pv] at k
    exact k
  | n + 1, _, .node m cs, st, .node (d := d) h1 h2 h3, hn, hc => by
    refine det fun Q k => sat_body ?_
    unfold f_renamed_nodes
    simp only [List.map_cons, List.map_nil, List.length_cons, List.length_nil, Nat.reduceAdd, Nat.reduceSub, List.reduceReplicate, List.cons_append, List.nil_append, node_pv]
    rw [ss_seq, ss_if, sat_test, sat_args, sat_cons, sat_var rfl, sat_cons, sat_c, sat_nil, isi_t, sat_truth, if_neg (by simp), ss_nil]
    rw [ss_seq, ss_set, sat_args, sat_cons, sat_comp, sat_iVal, sat_bin, sat_var rfl, sat_c, o_ixT, ixW_1, o_itT, T.pvs_map]
    refine comp_map (as := cs) (f := T.pv) (g := fun x => (mapN (fun m => if m = other then name else m) x).pv) (by simp [wipeP]) (by omega) (fun x mx => det fun Q k => by
      rw [sat_call, sat_cons, sat_var (v := x.pv) (by simp [wipeP]), sat_cons, sat_var (v := .str other) (by simp [wipeP]), sat_cons, sat_var (v := .str name) (by simp [wipeP]), sat_nil]
      refine ⟨rfl, ?_⟩
      show Sat (fuelF 5 f_renamed_nodes n [x.pv, .str other, .str name] st) _
      rw [renamed_eq n d x st (h3 x mx) (by omega) hc, sat_ok]
      exact k) ?_ _ trivial
    have e0 : cs.map (fun x => (mapN (fun m => if m = other then name else m) x).pv) = T.pvs (mapNs (fun m => if m = other then name else m) cs) := by rw [T.pvs_map, mapNs_map, List.map_map]; rfl
    rw [e0, o_finF, sat_nil, sat_one, o_tupL]
    rw [mapN, node_pv] at k
    rw [ss_seq, ss_if, sat_test, sat_bin, sat_bin, sat_var rfl, sat_c, o_ixT, ixW_0, sat_var rfl, o_eqS, sat_truth]
    by_cases e : m = other
    · rw [decide_eq_true e, if_pos rfl, ss_ret, sat_args, sat_cons, sat_var rfl, sat_cons, sat_var rfl, sat_nil, sat_tup]
      rw [if_pos e] at k
      exact ⟨sl2, k⟩
    · rw [decide_eq_false e, if_neg (by simp), ss_nil, ss_ret, sat_args, sat_cons, sat_bin, sat_var rfl, sat_c, o_ixT, ixW_0, sat_cons, sat_var rfl, sat_nil, sat_tup]
      rw [if_neg e] at k
      exact ⟨sl2, k⟩
theorem moved_eq {other name : Str} {c : Nat} : ∀ (n d : Nat) (t : T) (st : Store), T.Fit c d t → d < n → c ≤ 1000 → fuelF 7 f_law_moved n [t.pv, .str other, .tup [], .str name] st = .ok (mapN (fun m => if m = other then name else m) t).pv st
  | 0, d, _, _, _, hn, _ => absurd hn (Nat.not_lt_zero _)
  | n + 1, _, .leaf z, st, _, _, _ => by
    refine det fun Q k => sat_body ?_
    unfold f_law_moved
    simp only [List.map_cons, List.map_nil, List.length_cons, List.length_nil, Nat.reduceAdd, Nat.reduceSub, List.reduceReplicate, List.cons_append, List.nil_append, leaf_pv]
    rw [ss_seq, ss_if, sat_test, sat_args, sat_cons, sat_var rfl, sat_cons, sat_c, sat_nil, isi_s, sat_truth, if_pos rfl, ss_ret, sat_var rfl]
    rw [mapN, leaf_pv] at k
    exact k
  | n + 1, _, .node m cs, st, .node (d := d) h1 h2 h3, hn, hc => by
    refine det fun Q k => sat_body ?_
    unfold f_law_moved
    simp only [List.map_cons, List.map_nil, List.length_cons, List.length_nil, Nat.reduceAdd, Nat.reduceSub, List.reduceReplicate, List.cons_append, List.nil_append, node_pv]
    rw [ss_seq, ss_if, sat_test, sat_args, sat_cons, sat_var rfl, sat_cons, sat_c, sat_nil, isi_t, sat_truth, if_neg (by simp), ss_nil]
    rw [ss_seq, ss_set, sat_comp, sat_iVal, sat_bin, sat_var rfl, sat_c, o_ixT, ixW_1, o_itT, T.pvs_map]
    refine comp_map (as := cs) (f := T.pv) (g := fun x => (mapN (fun m => if m = other then name else m) x).pv) (by simp [wipeP]) (by omega) (fun x mx => det fun Q k => by
      rw [sat_call, sat_cons, sat_var (v := x.pv) (by simp [wipeP]), sat_cons, sat_var (v := .str other) (by simp [wipeP]), sat_cons, sat_var (v := .tup []) (by simp [wipeP]), sat_cons, sat_var (v := .str name) (by simp [wipeP]), sat_nil]
      refine ⟨rfl, ?_⟩
      show Sat (fuelF 7 f_law_moved n [x.pv, .str other, .tup [], .str name] st) _
      rw [moved_eq n d x st (h3 x mx) (by omega) hc, sat_ok]
      exact k) ?_ _ trivial
    have e0 : cs.map (fun x => (mapN (fun m => if m = other then name else m) x).pv) = T.pvs (mapNs (fun m => if m = other then name else m) cs) := by rw [T.pvs_map, mapNs_map, List.map_map]; rfl
    rw [e0, o_finF]
    rw [mapN, node_pv] at k
    rw [ss_seq, ss_if, sat_test, sat_bin, sat_bin, sat_var rfl, sat_c, o_ixT, ixW_0, sat_var rfl, o_neS, sat_truth]
    by_cases e : m = other
    · rw [decide_eq_true e, Bool.not_true, if_neg (by simp), ss_nil]
      rw [if_pos e] at k
      rw [ss_seq, ss_if, sat_test, sat_bin, sat_args, sat_cons, sat_var rfl, sat_nil, sat_one, o_lenT, sat_c, o_gtI, decide_eq_false (by simp), sat_truth, if_neg (by simp), ss_nil]
      rw [ss_ret, sat_args, sat_cons, sat_var rfl, sat_cons, sat_args, sat_cons, sat_var rfl, sat_nil, sat_one, o_tupL, sat_nil, sat_tup]
      exact ⟨sl2, k⟩
    · rw [decide_eq_false e, Bool.not_false, if_pos rfl, ss_ret, sat_args, sat_cons, sat_bin, sat_var rfl, sat_c, o_ixT, ixW_0, sat_cons, sat_args, sat_cons, sat_var rfl, sat_nil, sat_one, o_tupL, sat_nil, sat_tup]
      rw [if_neg e] at k
      exact ⟨sl2, k⟩
end PL
/-! PL, part QI: parting by the law; rows; ways that pass. -/
namespace PL
open PySem PySem.Spec PyProof.Rows L2
theorem own_parted_ok {new : Str} {ps : List (List Nat)} {pl : Nat} {c : Nat} : ∀ (n d : Nat) (t : T) (path : List Nat) (st : Store) (Q : PV → Store → Prop), T.Fit c d t → d < n → c ≤ 1000 → path.length + d ≤ 500 → st[pl]? = some (.lst (ps.map pathPv)) →
    (∀ s, Gr [] st s → Q (renS new (fun q => decide (path ++ q ∈ ps)) t).pv s) → Sat (fuelF 6 f_law_own_parted n [t.pv, pathPv path, .loc pl, .str new] st) Q
  | 0, d, _, _, _, _, _, hn, _, _, _, _ => absurd hn (Nat.not_lt_zero _)
  | n + 1, _, .leaf z, path, st, Q, _, _, _, _, _, k => by
    refine sat_body ?_
    unfold f_law_own_parted
    simp only [List.map_cons, List.map_nil, List.length_cons, List.length_nil, Nat.reduceAdd, Nat.reduceSub, List.reduceReplicate, List.cons_append, List.nil_append, leaf_pv]
    rw [ss_seq, ss_if, sat_test, sat_args, sat_cons, sat_var rfl, sat_cons, sat_c, sat_nil, isi_s, sat_truth, if_pos rfl, ss_ret, sat_var rfl]
    have := k st .refl
    rw [renS, leaf_pv] at this
    exact this
  | n + 1, _, .node m cs, path, st, Q, .node (d := d) h1 h2 h3, hn, hc, hp, hps, k => by
    refine sat_body ?_
    unfold f_law_own_parted
    simp only [List.map_cons, List.map_nil, List.length_cons, List.length_nil, Nat.reduceAdd, Nat.reduceSub, List.reduceReplicate, List.cons_append, List.nil_append, node_pv]
    rw [ss_seq, ss_if, sat_test, sat_args, sat_cons, sat_var rfl, sat_cons, sat_c, sat_nil, isi_t, sat_truth, if_neg (by simp), ss_nil]
    rw [ss_seq, ss_set, sat_args, sat_nil, sat_loc]
    refine ⟨sl0, ?_⟩
    have hpl := lt_of_some hps
    have h0 : (st ++ [PO.lst []])[st.length]? = some (.lst []) := by simp
    have hps0 : (st ++ [PO.lst []])[pl]? = some (.lst (ps.map pathPv)) := (Gr.app (L := [])).at' hps (by simp)
    have g0 : Gr [] st (st ++ [PO.lst []]) := .app
    generalize st ++ [PO.lst []] = s0 at *
    generalize hl : st.length = l at *
    generalize hS : (fun q => decide (path ++ q ∈ ps)) = S at k
    have hSi : ∀ i, (fun q => decide ((path ++ [i]) ++ q ∈ ps)) = fun q => S (i :: q) := fun i => by subst hS; funext q; simp
    have hS0 : S [] = decide (path ∈ ps) := by subst hS; simp
    refine seq_mid (fun e s => (∃ a, e = ([some (.tup [.str m, .tup (T.pvs cs)]), some (pathPv path), some (.loc pl), some (.str new), some (.loc l), a] : PEnv)) ∧ s[l]? = some (.lst (T.pvs (renSs new S 0 cs))) ∧ s[pl]? = some (.lst (ps.map pathPv)) ∧ Gr [l] s0 s) ?_ ?_
    · rw [ss_for, sat_iRange1, sat_args, sat_cons, sat_bin, sat_var rfl, sat_c, o_ixT, ixW_1, sat_nil, sat_one, o_lenT, o_rng, T.pvs_len]
      refine ⟨by omega, ?_⟩
      refine for_invN (k := 0) (fun i e s => (∃ a, e = ([some (.tup [.str m, .tup (T.pvs cs)]), some (pathPv path), some (.loc pl), some (.str new), some (.loc l), a] : PEnv)) ∧ s[l]? = some (.lst ((T.pvs (renSs new S 0 cs)).take i)) ∧ s[pl]? = some (.lst (ps.map pathPv)) ∧ Gr [l] s0 s) ⟨⟨_, rfl⟩, by simpa using h0, hps0, .refl⟩ ?_ ?_
      · rintro i v e s hv ⟨⟨a, rfl⟩, hs, hps', g⟩
        obtain ⟨hi, rfl⟩ := rngs_get hv
        have hi : i < cs.length := by omega
        have hx := List.getElem?_eq_getElem hi
        rw [Nat.zero_add] at hs ⊢
        rw [Int.zero_add]
        refine ⟨_, rfl, ?_⟩
        have hll := lt_of_some hs
        rw [ss_expr, sat_meth, sat_var rfl]
        refine ⟨o_isL hs, ?_⟩
        rw [sat_cons, sat_call, sat_cons, sat_bin, sat_bin, sat_var rfl, sat_c, o_ixT, ixW_1, sat_var rfl]
        refine walk_ix hx ?_
        rw [sat_cons, sat_bin, sat_var rfl, sat_args, sat_cons, sat_var rfl, sat_nil, sat_tup]
        refine ⟨sl1, ?_⟩
        rw [path_snoc (by omega), sat_cons, sat_var rfl, sat_cons, sat_var rfl, sat_nil]
        refine ⟨rfl, ?_⟩
        show Sat (fuelF 6 f_law_own_parted n [cs[i].pv, pathPv (path ++ [i]), .loc pl, .str new] s) _
        refine own_parted_ok n d cs[i] (path ++ [i]) s _ (h3 _ (List.getElem_mem hi)) (by omega) hc (by simp; omega) hps' fun s2 g2 => ?_
        have hs2 := g2.at' hs (by simp)
        rw [hSi, sat_nil, o_app hs2]
        refine ⟨by rw [sizeLine_eq, List.length_take]; omega, ⟨_, rfl⟩, ?_, ?_, ?_⟩
        · rw [List.getElem?_set_self (lt_of_some hs2), List.take_add_one, T.pvs_at (c := renS new (fun q => S (i :: q)) cs[i]) (by simp [renSs_get, hx])]
          rfl
        · rw [List.getElem?_set_ne (by omega)]
          exact g2.at' hps' (by simp)
        · exact g.trans ((g2.mono (by simp)).trans (.set (by simp)))
      · rintro e s ⟨⟨a, rfl⟩, hs, hps', g⟩
        rw [rngs_len, Nat.zero_add, Int.toNat_natCast, List.take_of_length_le (by rw [T.pvs_len, renSs_len]; omega)] at hs
        exact ⟨⟨_, rfl⟩, hs, hps', g⟩
    rintro e s ⟨⟨a, rfl⟩, hs, hps', g⟩
    have gg : Gr [] st s := ((g0.mono (by simp)).trans g).cut (by
      intro j hj hlt'
      simp only [List.mem_singleton] at hj
      omega)
    have kk := k s gg
    rw [renS, node_pv, hS0] at kk
    rw [ss_seq, ss_if, sat_test, sat_bin, sat_var rfl, sat_var rfl, (o_inPaths (p := path) (ps := ps) (b := false) (by unfold seqOf; simp only [hps'])).1, sat_truth]
    cases e : decide (path ∈ ps) with
    | true =>
      rw [e, if_pos rfl] at kk
      rw [if_pos rfl, ss_ret, sat_args, sat_cons, sat_var rfl, sat_cons, sat_args, sat_cons, sat_var rfl, sat_nil, sat_one, o_tupP hs, sat_nil, sat_tup]
      exact ⟨sl2, kk⟩
    | false =>
      rw [e, if_neg (by simp)] at kk
      rw [if_neg (by simp), ss_nil, ss_ret, sat_args, sat_cons, sat_bin, sat_var rfl, sat_c, o_ixT, ixW_0, sat_cons, sat_args, sat_cons, sat_var rfl, sat_nil, sat_one, o_tupP hs, sat_nil, sat_tup]
      exact ⟨sl2, kk⟩
/-! ### rows -/
def optPv : Option Row → PV
  | none => .non
  | some r => r.pv
/-- the loop that looks for a row -/
theorem find_loop {rs : List Row} {nm : Str} {r0 r1 : Option PV} {st : Store} {N : PEnv → Store → Prop} {R : PV → Store → Prop} (h0 : r1 = some (.str nm)) (k1 : ∀ r, rs.find? (rowP nm) = some r → R r.pv st) (k2 : rs.find? (rowP nm) = none → ∀ a, N [r0, r1, a] st) :
    SatS (sForL (.one 2) (sIf (eTest (eBin pEq (eBin pIx (eVar 2) (eC (.int 0))) (eVar 1))) (sRet (eVar 2)) sNil) (Itms.ok ⟨rs.map Row.pv, none⟩) (rs.map Row.pv) [r0, r1, none] st) N R := by
  subst h0
  have key : ∀ (rs : List Row) (a : Option PV), (∀ r, rs.find? (rowP nm) = some r → R r.pv st) → (rs.find? (rowP nm) = none → ∀ a, N [r0, some (.str nm), a] st) →
      SatS (sForL (.one 2) (sIf (eTest (eBin pEq (eBin pIx (eVar 2) (eC (.int 0))) (eVar 1))) (sRet (eVar 2)) sNil) (fun _ => True) (rs.map Row.pv) [r0, some (.str nm), a] st) N R := by
    intro rs
    induction rs with
    | nil => intro a h1 h2; rw [List.map_nil, ss_forL_nil trivial]; exact h2 rfl a
    | cons r rs ih =>
      intro a h1 h2
      rw [List.map_cons]
      refine ss_forL_cons trivial ⟨[r0, some (.str nm), some r.pv], rfl, ?_⟩
      rw [ss_if, sat_test, sat_bin, sat_bin, sat_var rfl, sat_c, row_ix0, sat_var rfl, o_eqS, sat_truth]
      by_cases e : r.n = nm
      · rw [decide_eq_true e, if_pos rfl, ss_ret, sat_var rfl]
        exact h1 r (by rw [List.find?_cons]; simp [rowP, e])
      · rw [decide_eq_false e, if_neg (by simp), ss_nil]
        have en : rowP nm r = false := by simp [rowP, e]
        refine ih _ (fun x hx => h1 x (by rw [List.find?_cons, en]; exact hx)) fun hx => h2 (by rw [List.find?_cons, en]; exact hx)
  exact key rs none k1 k2
theorem row_of_eq {rs : List Row} {tr : PV} {nm : Str} {st : Store} : m_row_of [.tup [.tup (rs.map Row.pv), tr], .str nm] st = .ok (optPv (rs.find? (rowP nm))) st := by
  refine det fun Q k => sat_body ?_
  unfold f_row_of
  simp only [List.map_cons, List.map_nil, List.length_cons, List.length_nil, Nat.reduceAdd, Nat.reduceSub, List.reduceReplicate, List.cons_append, List.nil_append]
  rw [ss_seq, ss_for, sat_iVal, sat_bin, sat_var rfl, sat_c, o_ixT, ixW_0, o_itT]
  refine find_loop rfl (fun r e => ?_) fun e a => ?_
  · rw [e] at k; exact k
  · rw [ss_ret, sat_c]
    rw [e] at k; exact k
theorem law_row_eq {rs : List Row} {nm : Str} {st : Store} : m_law_row [.tup (rs.map Row.pv), .str nm] st = .ok (optPv (rs.find? (rowP nm))) st := by
  refine det fun Q k => sat_body ?_
  unfold f_law_row
  simp only [List.map_cons, List.map_nil, List.length_cons, List.length_nil, Nat.reduceAdd, Nat.reduceSub, List.reduceReplicate, List.cons_append, List.nil_append]
  rw [ss_seq, ss_for, sat_iVal, sat_var rfl, o_itT]
  refine find_loop rfl (fun r e => ?_) fun e a => ?_
  · rw [e] at k; exact k
  · rw [ss_ret, sat_c]
    rw [e] at k; exact k
theorem with_row_eq {rs : List Row} {x : Row} {st : Store} (hok : ∀ r ∈ rs, r.Ok) (hx : x.Ok) (hl : rs.length ≤ 1000) : m_with_row [.tup (rs.map Row.pv), x.pv] st = .ok (.tup (((rs ++ [x]).mergeSort rowLe).map Row.pv)) st := by
  refine det fun Q k => sat_body ?_
  unfold f_with_row
  simp only [List.map_cons, List.map_nil, List.length_cons, List.length_nil, Nat.reduceAdd, Nat.reduceSub, List.reduceReplicate, List.cons_append, List.nil_append]
  rw [ss_ret, sat_args, sat_cons, sat_args, sat_cons, sat_bin, sat_var rfl, sat_args, sat_cons, sat_var rfl, sat_nil, sat_tup]
  refine ⟨sl1, ?_⟩
  rw [o_addT]
  refine ⟨by rw [sizeLine_eq]; simp; omega, ?_⟩
  have e1 : rs.map Row.pv ++ [x.pv] = (rs ++ [x]).map Row.pv := by simp
  rw [sat_nil, sat_one, e1]
  refine sorted_ok (b := true) (xs := (rs ++ [x]).map Row.pv) rfl (by simp; omega) (fun v m => ?_) ?_
  · obtain ⟨r, mr, rfl⟩ := List.mem_map.mp m
    rcases List.mem_append.mp mr with m | m
    · exact (hok r m).g
    · rw [List.mem_singleton.mp m]; exact hx.g
  rw [sort_rows, sat_nil, sat_one, o_tupL]
  exact k
/-- rows but those of a name -/
theorem but_row {rs : List Row} {nm : Str} {i j : Nat} {env : PEnv} {st : Store} {Q : PV → Store → Prop} (hi : i < env.length) (hj : env[j]? = some (some (.str nm))) (hij : i ≠ j) (hl : rs.length ≤ 10000) (own : List Nat) (ho : own = [i]) (k : Q (.lst ((rs.filter fun r => !decide (r.n = nm)).map Row.pv)) st)
    {f : EM} (hf : f env st = .ok (.tup (rs.map Row.pv)) st) : Sat (eComp own (iVal f) (.one i) (eTest (eBin pNe (eBin pIx (eVar i) (eC (.int 0))) (eVar j))) (eVar i) env st) Q := by
  subst ho
  rw [sat_comp, sat_iVal, hf, sat_ok, o_itT]
  have hw : ∀ r : Row, ((wipeP env [i]).set i (some r.pv))[i]? = some (some r.pv) := fun r => by rw [List.getElem?_set_self (by simp [wipeP]; exact hi)]
  refine comp_filt (as := rs) (f := Row.pv) (g := Row.pv) (p := fun r => !decide (r.n = nm)) (by simp [wipeP]; exact hi) (by omega) (fun r mr => t_ok fun Q k => by
    rw [sat_bin, sat_bin, sat_var (hw r), sat_c, row_ix0, sat_var (v := .str nm) (by rw [List.getElem?_set_ne hij]; simp only [wipeP]; rw [List.getElem?_set_ne hij]; exact hj), o_neS]; exact k) (fun r mr _ => det fun Q k => by rw [sat_var (hw r)]; exact k) ?_ _ trivial
  rw [o_finF]
  exact k
theorem without_row_eq {rs : List Row} {nm : Str} {st : Store} (hl : rs.length ≤ 10000) : m_without_row [.tup (rs.map Row.pv), .str nm] st = .ok (.tup ((rs.filter fun r => !decide (r.n = nm)).map Row.pv)) st := by
  refine det fun Q k => sat_body ?_
  unfold f_without_row
  simp only [List.map_cons, List.map_nil, List.length_cons, List.length_nil, Nat.reduceAdd, Nat.reduceSub, List.reduceReplicate, List.cons_append, List.nil_append]
  rw [ss_ret, sat_args, sat_cons]
  refine but_row (nm := nm) (rs := rs) (by simp) rfl (by decide) hl [2] rfl ?_ (det fun Q k => by rw [sat_var rfl]; exact k)
  rw [sat_nil, sat_one, o_tupL]
  exact k
/-! ### ways that pass both -/
theorem o_inStrs {x : Str} {us : List Str} {st : Store} {Q : PV → Store → Prop} : Sat (pIn (.str x) (.lst (us.map PV.str)) st) Q = Q (.bl (decide (x ∈ us))) st := o_inUsed (b := false) rfl
/-- [pair[0] for pair in pairs] -/
theorem names_of {pr : List (Str × Nat)} {i : Nat} {env : PEnv} {st : Store} {Q : PV → Store → Prop} (hi : i < env.length) (hl : pr.length ≤ 10000) {it : IM} (hf : Sat (it env st) fun p s => p = ⟨pr.map pairPv, none⟩ ∧ Q (.lst ((pr.map (·.1)).map PV.str)) s) :
    Sat (eComp [i] it (.one i) tYesM (eBin pIx (eVar i) (eC (.int 0))) env st) Q := by
  rw [sat_comp]
  refine hf.mono ?_
  rintro p s ⟨rfl, k⟩
  refine comp_map (as := pr) (f := pairPv) (g := fun q => .str q.1) (by simp [wipeP]; exact hi) (by omega) (fun q mq => det fun Q k => by
    rw [sat_bin, sat_var (v := pairPv q) (List.getElem?_set_self (by simp [wipeP]; exact hi)), sat_c]
    unfold pairPv
    rw [o_ixT, ixW_0]; exact k) ?_ _ trivial
  rw [o_finF]
  rw [List.map_map] at k
  exact k
theorem mem_paths {nm : Str} {t : T} {p : List Nat} (h : p ∈ pathsR nm t) : ∃ q ∈ nodesR t, q.1 = p ∧ q.2.1.nm = nm := by
  unfold pathsR at h
  obtain ⟨q, m, rfl⟩ := List.mem_map.mp h
  have := List.mem_filter.mp m
  exact ⟨q, this.1, rfl, by simpa using this.2⟩
theorem passes_paths {a b : Str} {t : T} : passes a b t = ((nodesR t).filter fun q => decide (q.2.1.nm = a)).any fun q => decide (b ∈ onWay q) := by
  unfold passes
  rw [List.any_filter]
theorem one_way_ok {rs : List Row} {t : T} {a b : Str} {st : Store} {Q : PV → Store → Prop} (hf : T.Fit 3 4 t) (k : ∀ s, Gr [] st s → Q (.bl (passes a b t || passes b a t)) s) : Sat (m_one_way_passes [.tup [.tup (rs.map Row.pv), t.pv], .str a, .str b] st) Q := by
  refine sat_body ?_
  unfold f_one_way_passes
  simp only [List.map_cons, List.map_nil, List.length_cons, List.length_nil, Nat.reduceAdd, Nat.reduceSub, List.reduceReplicate, List.cons_append, List.nil_append]
  rw [ss_seq, ss_for, sat_iVal, sat_args, sat_cons, sat_args, sat_cons, sat_var rfl, sat_cons, sat_var rfl, sat_nil, sat_tup]
  refine ⟨sl2, ?_⟩
  rw [sat_cons, sat_args, sat_cons, sat_var rfl, sat_cons, sat_var rfl, sat_nil, sat_tup]
  refine ⟨sl2, ?_⟩
  rw [sat_nil, sat_tup]
  refine ⟨sl2, ?_⟩
  rw [o_itT]
  generalize hg : some (PV.tup [.tup (rs.map Row.pv), t.pv]) = g0
  generalize hA : some (PV.str a) = A0
  generalize hB : some (PV.str b) = B0
  -- the inner turn
  have inner : ∀ (x y : Str) (c5 c6 : Option PV) (s : Store) (N : PEnv → Store → Prop) (R : PV → Store → Prop), (passes x y t = true → ∀ s', Gr [] s s' → R (.bl true) s') → (passes x y t = false → ∀ s' c5, Gr [] s s' → N [g0, A0, B0, some (.str x), some (.str y), c5, c6] s') →
      SatS (sFor (iVal (eCall 2 m_paths_of (aCons (eBin pIx (eVar 0) (eC (.int 1))) (aCons (eVar 3) aNil)))) (.one 5)
    (sIf (eTest (eBin pIn (eVar 4) (eComp [6] (iVal (eCall 2 m_above (aCons (eBin pIx (eVar 0) (eC (.int 1))) (aCons (eVar 5) aNil)))) (.one 6) tYesM (eBin pIx (eVar 6) (eC (.int 0)))))) (sRet (eC (.bl true))) sNil) [g0, A0, B0, some (.str x), some (.str y), c5, c6] s) N R := by
    intro x y c5 c6 s N R k1 k2
    rw [ss_for, sat_iVal, sat_call, sat_cons, sat_bin, sat_var (v := .tup [.tup (rs.map Row.pv), t.pv]) (by rw [← hg]; rfl), sat_c, o_ixT, ixW_1, sat_cons, sat_var rfl, sat_nil]
    refine ⟨rfl, paths_ok 60 4 t s _ hf (by decide) (by decide) (by decide) fun v s1 rd g1 => ?_⟩
    refine rd.iter fun p px pok => ?_
    rw [px]
    have el : (pathsR x t).map pathPv = ((nodesR t).filter fun q => decide (q.2.1.nm = x)).map (fun q => pathPv q.1) := by unfold pathsR; rw [List.map_map]; rfl
    rw [el] at rd pok ⊢
    rw [passes_paths] at k1 k2
    generalize hF : ((nodesR t).filter fun q => decide (q.2.1.nm = x)) = F at *
    have hmem : ∀ q ∈ F, q ∈ nodesR t := fun q m => by rw [← hF] at m; exact (List.mem_filter.mp m).1
    refine for_invN (k := 0) (fun i e s' => (∃ c5, e = ([g0, A0, B0, some (.str x), some (.str y), c5, c6] : PEnv)) ∧ Gr [] s1 s' ∧ Rd s s' v (F.map fun q => pathPv q.1) ∧ (F.take i).any (fun q => decide (y ∈ onWay q)) = false) ⟨⟨_, rfl⟩, .refl, rd, by simp⟩ ?_ ?_ (fun i e s' h => pok s' h.2.2.1)
    · rintro i w e s' hw ⟨⟨c5, rfl⟩, g2, rd2, ha⟩
      rw [List.getElem?_map] at hw
      cases eq : F[i]? with
      | none => rw [eq] at hw; cases hw
      | some q =>
        rw [eq] at hw
        cases hw
        rw [Nat.zero_add] at ha ⊢
        have mq := hmem q (List.mem_of_getElem? eq)
        obtain ⟨wk, _⟩ := walk_of_mem mq
        have dp := (wk.deep hf).1
        have pl := wk.len
        refine ⟨_, rfl, ?_⟩
        rw [ss_if, sat_test, sat_bin, sat_var rfl]
        refine names_of (pr := q.2.2) (by simp) (by omega) ?_
        rw [sat_iVal, sat_call, sat_cons, sat_bin, sat_var (v := .tup [.tup (rs.map Row.pv), t.pv]) (by rw [← hg]; rfl), sat_c, o_ixT, ixW_1, sat_cons, sat_var rfl, sat_nil]
        refine ⟨rfl, above_ok wk (by omega) fun s3 g3 => ?_⟩
        unfold pairsPv
        rw [o_itT]
        refine ⟨rfl, ?_⟩
        have hq : y ∈ q.2.2.map (·.1) ↔ y ∈ onWay q := Iff.rfl
        rw [o_inStrs, sat_truth]
        have hi : i < F.length := (List.getElem?_eq_some_iff.mp eq).1
        have hlast : (F.take (i + 1)).any (fun q => decide (y ∈ onWay q)) = decide (y ∈ onWay q) := by
          rw [List.take_add_one, eq, List.any_append, ha]
          simp
        by_cases hy : y ∈ q.2.2.map (·.1)
        · rw [decide_eq_true hy, if_pos rfl, ss_ret, sat_c]
          refine k1 ?_ s3 (g1.trans (g2.trans g3))
          rw [List.any_eq_true]
          exact ⟨q, List.mem_of_getElem? eq, by simpa using hq.mp hy⟩
        · rw [decide_eq_false hy, if_neg (by simp), ss_nil]
          refine ⟨⟨_, rfl⟩, g2.trans g3, rd2.gr g3 (by simp), ?_⟩
          rw [hlast, decide_eq_false (fun z => hy (hq.mpr z))]
    · rintro e s' ⟨⟨c5, rfl⟩, g2, rd2, ha⟩
      rw [List.length_map, Nat.zero_add, List.take_length] at ha
      exact k2 ha s' c5 (g1.trans g2)
  refine ss_forL_cons trivial ⟨[g0, A0, B0, some (.str a), some (.str b), none, none], rfl, ?_⟩
  refine inner a b none none st _ _ (fun h s' g => ?_) fun h s' c5 g => ?_
  · have := k s' g; rw [h, Bool.true_or] at this; exact this
  refine ss_forL_cons trivial ⟨[g0, A0, B0, some (.str b), some (.str a), c5, none], rfl, ?_⟩
  refine inner b a c5 none s' _ _ (fun h2 s2 g2 => ?_) fun h2 s2 c5 g2 => ?_
  · have := k s2 (g.trans g2); rw [h, h2, Bool.or_true] at this; exact this
  rw [ss_forL_nil trivial, ss_ret, sat_c]
  have := k s2 (g.trans g2)
  rw [h, h2, Bool.or_false] at this
  exact this
end PL
/-! PL, part QJ: errors by wishes; putting sets together. -/
namespace PL
open PySem PySem.Spec PyProof.Rows L2
/-! ### a block that raises, an error without fields -/
inductive SatE (r : SR) (n : Str) (P : Store → Prop) : Prop where
  | mk (env : PEnv) (st : Store) (e : r = .err env n none st) (p : P st)
section
variable {f g : SM} {c : TM} {env : PEnv} {st : Store} {n : Str} {P : Store → Prop} {fs : AM}
theorem se_seq (h : SatS (f env st) (fun e s => SatE (g e s) n P) fun _ _ => False) : SatE (sSeq f g env st) n P := by
  rcases h with ⟨e, s, h1, ⟨e2, s2, h2, p⟩⟩ | ⟨v, s, h1, h2⟩
  · exact ⟨e2, s2, by unfold sSeq; rw [h1]; exact h2, p⟩
  · exact False.elim h2
theorem se_first (h : SatE (f env st) n P) : SatE (sSeq f g env st) n P := by
  obtain ⟨e, s, h1, p⟩ := h
  exact ⟨e, s, by unfold sSeq; rw [h1], p⟩
theorem se_if {b : Bool} (hc : Sat (c env st) fun b' s => b' = b ∧ SatE (if b = true then f env s else g env s) n P) : SatE (sIf c f g env st) n P := by
  obtain ⟨b', s, h1, rfl, ⟨e2, s2, h2, p⟩⟩ := hc
  exact ⟨e2, s2, by unfold sIf; rw [h1]; exact h2, p⟩
theorem se_raise (h : Sat (fs env st) fun vs s => vs.length ≤ sizeLine ∧ P s) : SatE (sRaise0 n fs env st) n P := by
  obtain ⟨vs, s, h1, h2, p⟩ := h
  refine ⟨env, s, ?_, p⟩
  unfold sRaise0
  rw [h1]
  show (if vs.length ≤ sizeLine then SR.err env n none s else .stuck) = _
  rw [if_pos h2]
theorem se_forS {it : IM} {tg : Tg} {body : SM} (h : Sat (it env st) fun p s => SatE (sForL tg body p.ok p.xs env s) n P) : SatE (sFor it tg body env st) n P := by
  obtain ⟨p, s, h1, ⟨e2, s2, h2, q⟩⟩ := h
  exact ⟨e2, s2, by unfold sFor; rw [h1]; exact h2, q⟩
theorem err_body {k : Nat} {args : List PV} (h : SatE (f (args.map some ++ List.replicate (k - args.length) none) st) n P) : ∃ s, runBody k f args st = .err n none s ∧ P s := by
  obtain ⟨e, s, h1, p⟩ := h
  exact ⟨s, by unfold runBody; rw [h1], p⟩
theorem se_for {tg : Tg} {body : SM} {xs : List PV} {I : Nat → PEnv → Store → Prop} (ok : Store → Prop) (h0 : I 0 env st) (hok : ∀ i e s, I i e s → ok s) {j : Nat} (hj : j < xs.length)
    (hs : ∀ i v e s, i < j → xs[i]? = some v → I i e s → ∃ e', setTg tg v e = some e' ∧ SatS (body e' s) (I (i + 1)) fun _ _ => False)
    (he : ∀ v e s, xs[j]? = some v → I j e s → ∃ e', setTg tg v e = some e' ∧ SatE (body e' s) n P) : SatE (sForL tg body ok xs env st) n P := by
  have key : ∀ (m i : Nat) (e : PEnv) (s : Store), i + m = j → I i e s → SatE (sForL tg body ok (xs.drop i) e s) n P := by
    intro m
    induction m with
    | zero =>
      intro i e s hi hI
      have hi : i = j := by omega
      subst hi
      rw [List.drop_eq_getElem_cons hj]
      obtain ⟨e', h1, ⟨e2, s2, h2, p⟩⟩ := he _ e s (List.getElem?_eq_getElem hj) hI
      refine ⟨e2, s2, ?_, p⟩
      unfold sForL
      rw [if_pos (hok _ _ _ hI), h1]
      show (match body e' s with
        | .nx e s => sForL tg body ok _ e s
        | .ct e s => sForL tg body ok _ e s
        | .bk e s => .nx e s
        | .rt v s => .rt v s
        | .err e n fs s => .err e n fs s
        | .stuck => .stuck) = _
      rw [h2]
    | succ m ih =>
      intro i e s hi hI
      have hix : i < xs.length := by omega
      rw [List.drop_eq_getElem_cons hix]
      obtain ⟨e', h1, h2⟩ := hs i _ e s (by omega) (List.getElem?_eq_getElem hix) hI
      rcases h2 with ⟨e2, s2, h2, hI2⟩ | ⟨v, s2, h2, z⟩
      · obtain ⟨e3, s3, h3, p⟩ := ih (i + 1) e2 s2 (by omega) hI2
        refine ⟨e3, s3, ?_, p⟩
        unfold sForL
        rw [if_pos (hok _ _ _ hI), h1]
        show (match body e' s with
          | .nx e s => sForL tg body ok _ e s
          | .ct e s => sForL tg body ok _ e s
          | .bk e s => .nx e s
          | .rt v s => .rt v s
          | .err e n fs s => .err e n fs s
          | .stuck => .stuck) = _
        rw [h2]
        exact h3
      · exact False.elim z
  have := key j 0 env st (by omega) h0
  rwa [List.drop_zero] at this
end
theorem ss_tryM {cs : List Cl} {fb : SM} {env : PEnv} {st : Store} {N : PEnv → Store → Prop} {R : PV → Store → Prop} (h : SatS (fb env st) N R) : SatS (sTryM cs fb env st) N R := by
  rcases h with ⟨e, s, h1, p⟩ | ⟨v, s, h1, p⟩
  · exact .nx e s (by unfold sTryM; rw [h1]) p
  · exact .rt v s (by unfold sTryM; rw [h1]) p
/-- the clause that takes an error without fields, and returns -/
theorem pick_ret {n : Str} {env : PEnv} {st s2 : Store} {v : PV} {c : Cl} : ∀ {cs : List Cl}, cs.find? (fun c => decide (n = c.x)) = some c → (∀ a, c.fs a none (env.set c.i (some (.con (.ref a)))) st = .rt v s2) → clPick n none env st cs = .rt v s2
  | [], h, _ => by cases h
  | d :: cs, h, hs => by
    unfold clPick
    rw [List.find?_cons] at h
    by_cases e : n = d.x
    · rw [decide_eq_true e] at h
      cases h
      rw [if_pos e]
      have all : ∀ a b, clRun c none env st a b = .rt v s2 := fun a b => by
        unfold clRun
        show unsetR c.i (c.fs a none (env.set c.i (some (.con (.ref a)))) st) = _
        rw [hs a]; rfl
      unfold anyAd
      rw [if_pos fun a b => (all a b).trans (all 0 0).symm]
      exact all 0 0
    · rw [decide_eq_false e] at h
      rw [if_neg e]
      exact pick_ret h hs
theorem ret_err {n : Nat} {m : List PV → Store → Res PV} {fs : AM} {env : PEnv} {st s : Store} {vs : List PV} {x : Str} (h : fs env st = .ok vs st) (hl : vs.length = n) (he : m vs st = .err x none s) : sRet (eCallX n m fs) env st = .err env x none s := by
  have : eCallX n m fs env st = .err x none s := by
    unfold eCallX eArgs
    rw [h]
    show guardN n m vs st = _
    unfold guardN
    rw [if_pos hl, he]
  unfold sRet
  rw [this]
  rfl
/-! ### mingled -/
theorem eqv_ints : ∀ (a b : List Int), PyData.eqvAll (a.map .int) (b.map .int) = decide (a = b)
  | [], [] => by simp [PyData.eqvAll]
  | [], _ :: _ => by simp [PyData.eqvAll]
  | _ :: _, [] => by simp [PyData.eqvAll]
  | x :: xs, y :: ys => by
    rw [List.map_cons, List.map_cons, PyData.eqvAll, PyData.eqv, eqv_ints xs ys]
    by_cases h : x = y <;> by_cases h' : xs = ys <;> simp [h, h']
theorem row_tail {r : Row} {st : Store} {Q : PV → Store → Prop} : Sat (pSl r.pv (some 1) none st) Q = Q (.tup [.int r.o, .tup (ints' r.ws)]) st := by
  unfold Row.pv
  rw [o_slT, cutP_1]
theorem isD_tail (r : Row) : isD (.tup [.int r.o, .tup (ints' r.ws)]) = true := by simp [isD, isDs, isDs_ints]
theorem depth_tail (r : Row) : (toD (.tup [.int r.o, .tup (ints' r.ws)])).depth ≤ 60 := by simp [toD, toDs, toDs_ints, PyData.depth, PyData.depthAll, depth_ints]
theorem eqv_tail (r q : Row) : PyData.eqv (toD (.tup [.int r.o, .tup (ints' r.ws)])) (toD (.tup [.int q.o, .tup (ints' q.ws)])) = (decide (r.o = q.o) && decide (r.ws = q.ws)) := by
  simp only [toD, toDs, toDs_ints, PyData.eqv, PyData.eqvAll, eqv_ints, Bool.and_true]
  by_cases h : r.o = q.o <;> by_cases h' : r.ws = q.ws <;> simp [h, h']
theorem eq_tail {r q : Row} {st : Store} {Q : PV → Store → Prop} : Sat (pEq (.tup [.int r.o, .tup (ints' r.ws)]) (.tup [.int q.o, .tup (ints' q.ws)]) st) Q = Q (.bl (decide (r.o = q.o) && decide (r.ws = q.ws))) st := by
  unfold pEq
  rw [if_pos ⟨isD_tail r, isD_tail q, by have := depth_tail r; omega⟩, sat_ok, eqv_tail]
theorem ne_tail {r q : Row} {st : Store} {Q : PV → Store → Prop} : Sat (pNe (.tup [.int r.o, .tup (ints' r.ws)]) (.tup [.int q.o, .tup (ints' q.ws)]) st) Q = Q (.bl (!(decide (r.o = q.o) && decide (r.ws = q.ws)))) st := by
  unfold pNe
  rw [if_pos ⟨isD_tail r, isD_tail q, by have := depth_tail r; omega⟩, sat_ok, eqv_tail]
def gamePv (rs : List Row) (t : T) : PV := .tup [.tup (rs.map Row.pv), t.pv]
def sameRow (a b : Str) : Option Row → Option Row → Bool
  | some r1, some r2 => !decide (a = b) && (decide (r1.o = r2.o) && decide (r1.ws = r2.ws))
  | _, _ => false
theorem opt_is {o : Option Row} {st : Store} {Q : PV → Store → Prop} : Sat (pIs (optPv o) .non st) Q = Q (.bl o.isNone) st := by
  cases o with
  | none => exact o_isN
  | some r => exact row_is
/-- row is None or lower is None or name == other or row[1:] != lower[1:] -/
theorem alike_test {r1 r2 : Option Row} {a b : Str} {env : PEnv} {st : Store} (h1 : env[1]? = some (some (.str a))) (h2 : env[2]? = some (some (.str b))) (h3 : env[3]? = some (some (optPv r1))) (h4 : env[4]? = some (some (optPv r2))) :
    (tOrM (eTest (eBin pIs (eVar 3) (eC .non))) (tOrM (eTest (eBin pIs (eVar 4) (eC .non))) (tOrM (eTest (eBin pEq (eVar 1) (eVar 2))) (eTest (eBin pNe (eSl pSl (eVar 3) (oSome (eC (.int 1))) oNone) (eSl pSl (eVar 4) (oSome (eC (.int 1))) oNone)))))) env st = .ok (!sameRow a b r1 r2) st := by
  refine det fun Q k => ?_
  rw [sat_or, sat_test, sat_bin, sat_var h3, sat_c, opt_is, sat_truth]
  cases r1 with
  | none => exact k
  | some r1 =>
    rw [if_neg (by simp), sat_or, sat_test, sat_bin, sat_var h4, sat_c, opt_is, sat_truth]
    cases r2 with
    | none => exact k
    | some r2 =>
      rw [if_neg (by simp), sat_or, sat_test, sat_bin, sat_var h1, sat_var h2, o_eqS, sat_truth]
      by_cases e : a = b
      · rw [decide_eq_true e, if_pos rfl]
        simp only [sameRow, e, decide_true, Bool.not_true, Bool.false_and, Bool.not_false] at k
        exact k
      · rw [decide_eq_false e, if_neg (by simp), sat_test, sat_bin, sat_sl, sat_var h3, sat_oSome, sat_c]
        show Sat (oNone env st) _
        rw [sat_oNone]
        show Sat (pSl r1.pv (some 1) none st) _
        rw [row_tail, sat_sl, sat_var h4, sat_oSome, sat_c]
        show Sat (oNone env st) _
        rw [sat_oNone]
        show Sat (pSl r2.pv (some 1) none st) _
        rw [row_tail, ne_tail, sat_truth]
        simp only [sameRow, decide_eq_false e, Bool.not_false, Bool.true_and] at k
        exact k
theorem canM_eq {rs : List Row} {t : T} {a b : Str} : canM rs t a b = (sameRow a b (rs.find? (rowP a)) (rs.find? (rowP b)) && !(passes a b t || passes b a t)) := by
  unfold canM
  cases rs.find? (rowP a) with
  | none => rfl
  | some r1 =>
    cases rs.find? (rowP b) with
    | none => rfl
    | some r2 => rfl
def mergeN (a b : Str) : Str → Str := fun m => if m = b then a else m
theorem mingled_yes {rs : List Row} {t : T} {a b : Str} {st : Store} {Q : PV → Store → Prop} (hf : T.Fit 3 4 t) (hl : rs.length ≤ 10000) (hc : canM rs t a b = true) (k : ∀ s, Gr [] st s → Q (gamePv (rs.filter fun r => !decide (r.n = b)) (mapN (mergeN a b) t)) s) :
    Sat (m_mingled [gamePv rs t, .str a, .str b] st) Q := by
  rw [canM_eq, Bool.and_eq_true, Bool.not_eq_true'] at hc
  refine sat_body ?_
  unfold f_mingled gamePv
  simp only [List.map_cons, List.map_nil, List.length_cons, List.length_nil, Nat.reduceAdd, Nat.reduceSub, List.reduceReplicate, List.cons_append, List.nil_append]
  rw [ss_seq, ss_set, sat_call, sat_cons, sat_var rfl, sat_cons, sat_var rfl, sat_nil, row_of_eq, sat_ok]
  refine ⟨rfl, ?_⟩
  rw [ss_seq, ss_set, sat_call, sat_cons, sat_var rfl, sat_cons, sat_var rfl, sat_nil, row_of_eq, sat_ok]
  refine ⟨rfl, ?_⟩
  rw [ss_ifb (alike_test (a := a) (b := b) (r1 := rs.find? (rowP a)) (r2 := rs.find? (rowP b)) rfl rfl rfl rfl), hc.1, Bool.not_true, if_neg (by simp), ss_nil]
  rw [ss_seq, ss_if, sat_test, sat_call, sat_cons, sat_var rfl, sat_cons, sat_var rfl, sat_cons, sat_var rfl, sat_nil]
  refine ⟨rfl, one_way_ok hf fun s g => ?_⟩
  rw [hc.2, sat_truth, if_neg (by simp), ss_nil, ss_ret, sat_args, sat_cons, sat_call, sat_cons, sat_bin, sat_var rfl, sat_c, o_ixT, ixW_0, sat_cons, sat_var rfl, sat_nil, without_row_eq hl, sat_ok]
  refine ⟨rfl, ?_⟩
  rw [sat_cons, sat_call, sat_cons, sat_bin, sat_var rfl, sat_c, o_ixT, ixW_1, sat_cons, sat_var rfl, sat_cons, sat_var rfl, sat_nil]
  refine ⟨rfl, ?_⟩
  show Sat (fuelF 5 f_renamed_nodes 60 [t.pv, .str b, .str a] s) _
  rw [renamed_eq 60 4 t s hf (by decide) (by decide), sat_ok, sat_nil, sat_tup]
  exact ⟨sl2, k s g⟩
theorem mingled_no {rs : List Row} {t : T} {a b : Str} {st : Store} (hf : T.Fit 3 4 t) (hc : canM rs t a b = false) : ∃ s, m_mingled [gamePv rs t, .str a, .str b] st = .err "BadStep" none s ∧ Gr [] st s := by
  rw [canM_eq] at hc
  refine err_body ?_
  unfold f_mingled gamePv
  simp only [List.map_cons, List.map_nil, List.length_cons, List.length_nil, Nat.reduceAdd, Nat.reduceSub, List.reduceReplicate, List.cons_append, List.nil_append]
  refine se_seq ?_
  rw [ss_set, sat_call, sat_cons, sat_var rfl, sat_cons, sat_var rfl, sat_nil, row_of_eq, sat_ok]
  refine ⟨rfl, se_seq ?_⟩
  rw [ss_set, sat_call, sat_cons, sat_var rfl, sat_cons, sat_var rfl, sat_nil, row_of_eq, sat_ok]
  refine ⟨rfl, ?_⟩
  cases hs : sameRow a b (rs.find? (rowP a)) (rs.find? (rowP b)) with
  | false =>
    refine se_first (se_if (b := true) ?_)
    rw [alike_test (a := a) (b := b) (r1 := rs.find? (rowP a)) (r2 := rs.find? (rowP b)) rfl rfl rfl rfl, sat_ok, hs]
    refine ⟨rfl, ?_⟩
    rw [if_pos rfl]
    refine se_raise ?_
    rw [sat_cons, sat_c, sat_nil]
    exact ⟨sl1, .refl⟩
  | true =>
    rw [hs, Bool.true_and, Bool.not_eq_false'] at hc
    refine se_seq ?_
    rw [ss_if, alike_test (a := a) (b := b) (r1 := rs.find? (rowP a)) (r2 := rs.find? (rowP b)) rfl rfl rfl rfl, sat_ok, hs, Bool.not_true, if_neg (by simp), ss_nil]
    refine se_first (se_if (b := true) ?_)
    rw [sat_test, sat_call, sat_cons, sat_var rfl, sat_cons, sat_var rfl, sat_cons, sat_var rfl, sat_nil]
    refine ⟨rfl, one_way_ok hf fun s g => ?_⟩
    rw [hc, sat_truth]
    refine ⟨rfl, ?_⟩
    rw [if_pos rfl]
    refine se_raise ?_
    rw [sat_cons, sat_c, sat_nil]
    exact ⟨sl1, g⟩
theorem sat_isE0 {a i : Nat} {b : Bool} {env : PEnv} {st : Store} {Q : PV → Store → Prop} (e : env[i]? = some (some (.con (.ref a)))) : Sat (eIsE0 a b (eVar i) env st) Q = Q (.bl b) st := by
  unfold eIsE0
  rw [sat_bind, sat_var e]
  show Sat (if _ then _ else _) Q = _
  rw [if_pos rfl, sat_ok]
theorem rt_of {r : SR} {v : PV} {s : Store} (h : SatS r (fun _ _ => False) fun u t => u = v ∧ t = s) : r = .rt v s := by
  rcases h with ⟨e, t, h1, h2⟩ | ⟨u, t, h1, rfl, rfl⟩
  · exact False.elim h2
  · exact h1
theorem mingled_or_ok {rs : List Row} {t : T} {a b : Str} {st : Store} {Q : PV → Store → Prop} (hf : T.Fit 3 4 t) (hl : rs.length ≤ 10000)
    (k : ∀ s, Gr [] st s → Q (if canM rs t a b = true then gamePv (rs.filter fun r => !decide (r.n = b)) (mapN (mergeN a b) t) else .lst [.str "step", .bl false]) s) : Sat (m_law_mingled_or [gamePv rs t, .str a, .str b] st) Q := by
  refine sat_body ?_
  unfold f_law_mingled_or
  simp only [List.map_cons, List.map_nil, List.length_cons, List.length_nil, Nat.reduceAdd, Nat.reduceSub, List.reduceReplicate, List.cons_append, List.nil_append]
  have hargs : (aCons (eVar 0) (aCons (eVar 1) (aCons (eVar 2) aNil))) [some (gamePv rs t), some (.str a), some (.str b), none] st = .ok [gamePv rs t, .str a, .str b] st := det fun Q k => by
    rw [sat_cons, sat_var rfl, sat_cons, sat_var rfl, sat_cons, sat_var rfl, sat_nil]; exact k
  cases hc : canM rs t a b with
  | true =>
    rw [hc] at k
    refine ss_tryM ?_
    rw [ss_ret, sat_callX, hargs, sat_ok]
    exact ⟨rfl, mingled_yes hf hl hc fun s g => k s g⟩
  | false =>
    obtain ⟨s, e, g⟩ := mingled_no (st := st) hf hc
    have he := ret_err (n := 3) hargs rfl e
    rw [hc] at k
    refine .rt _ _ ?_ (k s g)
    unfold sTryM
    rw [he]
    refine pick_ret (v := .lst [.str "step", .bl false]) (s2 := s) (c := ⟨"BadStep", 3, _⟩) (by rfl) fun ad => rt_of ?_
    show SatS (sRet _ _ _) _ _
    rw [ss_ret, sat_args, sat_cons, sat_c, sat_cons, sat_isE0 rfl, sat_nil, sat_lst]
    exact ⟨sl2, rfl, rfl⟩
end PL
/-! PL, part QK: parting; pairs of sets. -/
namespace PL
open PySem PySem.Spec PyProof.Rows L2
theorem find_name {rs : List Row} {nm : Str} : (rs.find? (rowP nm)).isSome = decide (nm ∈ rs.map (·.n)) := by
  rw [Bool.eq_iff_iff, List.find?_isSome, decide_eq_true_eq, List.mem_map]
  simp only [rowP, decide_eq_true_eq]
theorem opt_isNot {o : Option Row} {st : Store} {Q : PV → Store → Prop} : Sat (pIsNot (optPv o) .non st) Q = Q (.bl o.isSome) st := by
  cases o with
  | none => exact o_isNotN
  | some r => exact row_isNot
theorem mem_pathsR {nm : Str} {t : T} {p : List Nat} : p ∈ pathsR nm t ↔ ∃ pr cs, Walk t p pr (.node nm cs) := by
  constructor
  · intro h
    obtain ⟨q, m, rfl, e⟩ := mem_paths h
    obtain ⟨w, n, cs, e2⟩ := walk_of_mem m
    rw [e2] at w e
    have e : n = nm := e
    subst e
    exact ⟨_, _, w⟩
  · rintro ⟨pr, cs, w⟩
    have := mem_of_walk w rfl
    unfold pathsR
    exact List.mem_map.mpr ⟨_, List.mem_filter.mpr ⟨this, by simp [T.nm]⟩, rfl⟩
/-- the new name is declared -/
theorem parted_meet {rs : List Row} {t : T} {a new : Str} {v : PV} {st : Store} (hn : new ∈ rs.map (·.n)) : m_parted [gamePv rs t, .str a, v, .str new] st = .err "NamesMeet" none st := by
  obtain ⟨s, h, rfl⟩ : ∃ s, m_parted [gamePv rs t, .str a, v, .str new] st = .err "NamesMeet" none s ∧ s = st := by
    refine err_body ?_
    unfold f_parted gamePv
    simp only [List.map_cons, List.map_nil, List.length_cons, List.length_nil, Nat.reduceAdd, Nat.reduceSub, List.reduceReplicate, List.cons_append, List.nil_append]
    refine se_seq ?_
    rw [ss_set, sat_call, sat_cons, sat_var rfl, sat_cons, sat_var rfl, sat_nil, row_of_eq, sat_ok]
    refine ⟨rfl, se_first (se_if (b := true) ?_)⟩
    rw [sat_test, sat_bin, sat_call, sat_cons, sat_var rfl, sat_cons, sat_var rfl, sat_nil, row_of_eq, sat_ok]
    refine ⟨rfl, ?_⟩
    rw [sat_c, opt_isNot, find_name, decide_eq_true hn, sat_truth]
    refine ⟨rfl, ?_⟩
    rw [if_pos rfl]
    refine se_raise ?_
    rw [sat_cons, sat_c, sat_nil]
    exact ⟨sl1, rfl⟩
  exact h
/-- a path leads to no node of the set -/
theorem parted_path {rs : List Row} {t : T} {a new : Str} {ps : List (List Nat)} {st : Store} (hf : T.Fit 3 4 t) (hn : new ∉ rs.map (·.n)) (hl : ps.length ≤ 10000) (hp : ∃ p ∈ ps, p ∉ pathsR a t) : ∃ s, m_parted [gamePv rs t, .str a, .lst (ps.map pathPv), .str new] st = .err "BadPath" none s ∧ Gr [] st s := by
  refine err_body ?_
  unfold f_parted
  generalize hg : gamePv rs t = g0
  simp only [List.map_cons, List.map_nil, List.length_cons, List.length_nil, Nat.reduceAdd, Nat.reduceSub, List.reduceReplicate, List.cons_append, List.nil_append]
  have ro : ∀ nm s, m_row_of [g0, .str nm] s = .ok (optPv (rs.find? (rowP nm))) s := fun nm s => by rw [← hg]; exact row_of_eq
  refine se_seq ?_
  rw [ss_set, sat_call, sat_cons, sat_var rfl, sat_cons, sat_var rfl, sat_nil, ro, sat_ok]
  refine ⟨rfl, se_seq ?_⟩
  rw [ss_if, sat_test, sat_bin, sat_call, sat_cons, sat_var rfl, sat_cons, sat_var rfl, sat_nil, ro, sat_ok]
  refine ⟨rfl, ?_⟩
  rw [sat_c, opt_isNot, find_name, decide_eq_false hn, sat_truth, if_neg (by simp), ss_nil]
  refine se_seq ?_
  rw [ss_set, sat_call, sat_cons, sat_bin, sat_var rfl, sat_c, ← hg]
  unfold gamePv
  rw [o_ixT, ixW_1, sat_cons, sat_var rfl, sat_nil]
  refine ⟨rfl, paths_ok 60 4 t st _ hf (by decide) (by decide) (by decide) fun v s rd g => ?_⟩
  -- the first path that is none
  obtain ⟨j, hj, h1, h2⟩ : ∃ j, ∃ (hj : j < ps.length), ps[j] ∉ pathsR a t ∧ ∀ i (hi : i < j), ps[i] ∈ pathsR a t := by
    clear rd g
    induction ps with
    | nil => obtain ⟨p, m, _⟩ := hp; cases m
    | cons q ps ih =>
      by_cases hq : q ∈ pathsR a t
      · obtain ⟨j, hj, h1, h2⟩ := ih (by simp only [List.length_cons] at hl; omega) (by
          obtain ⟨p, m, np⟩ := hp
          rcases List.mem_cons.mp m with e | m
          · exact absurd (e ▸ hq) np
          · exact ⟨p, m, np⟩)
        refine ⟨j + 1, by simpa using hj, by simpa using h1, fun i hi => ?_⟩
        cases i with
        | zero => exact hq
        | succ i => simpa using h2 i (by omega)
      · exact ⟨0, by simp, hq, fun i hi => absurd hi (Nat.not_lt_zero _)⟩
  refine se_first ?_
  refine se_forS ?_
  rw [sat_iVal, sat_var rfl, o_itL]
  have tst : ∀ (p : List Nat) (w : Option PV), eTest (eBin pNotIn (eVar 6) (eVar 5)) [some (.tup [.tup (rs.map Row.pv), t.pv]), some (.str a), some (.lst (ps.map pathPv)), some (.str new), some (optPv (rs.find? (rowP a))), some v, some (pathPv p), w] s = .ok (!decide (p ∈ pathsR a t)) s := fun p w => t_ok fun Q k => by
    rw [sat_bin, sat_var rfl, sat_var rfl, (o_inPaths (p := p) (ps := pathsR a t) rd.seq).2]; exact k
  refine se_for (I := fun i e s' => s' = s ∧ ∃ w, e = ([some (.tup [.tup (rs.map Row.pv), t.pv]), some (.str a), some (.lst (ps.map pathPv)), some (.str new), some (optPv (rs.find? (rowP a))), some v, w, none] : PEnv)) _ ⟨rfl, _, rfl⟩ (fun _ _ _ _ => trivial) (j := j) (by rw [List.length_map]; exact hj) ?_ ?_
  · rintro i w e s' hij hw ⟨rfl, x, rfl⟩
    rw [List.getElem?_map, List.getElem?_eq_getElem (by omega)] at hw
    cases hw
    refine ⟨_, rfl, ?_⟩
    rw [ss_if]
    show Sat (eTest (eBin pNotIn (eVar 6) (eVar 5)) [some (.tup [.tup (rs.map Row.pv), t.pv]), some (.str a), some (.lst (ps.map pathPv)), some (.str new), some (optPv (rs.find? (rowP a))), some v, some (pathPv ps[i]), none] s') _
    rw [tst, sat_ok, decide_eq_true (h2 i hij), Bool.not_true, if_neg (by simp), ss_nil]
    exact ⟨rfl, _, rfl⟩
  · rintro w e s' hw ⟨rfl, x, rfl⟩
    rw [List.getElem?_map, List.getElem?_eq_getElem hj] at hw
    cases hw
    refine ⟨_, rfl, se_if (b := true) ?_⟩
    show Sat (eTest (eBin pNotIn (eVar 6) (eVar 5)) [some (.tup [.tup (rs.map Row.pv), t.pv]), some (.str a), some (.lst (ps.map pathPv)), some (.str new), some (optPv (rs.find? (rowP a))), some v, some (pathPv ps[j]), none] s') _
    rw [tst, sat_ok, decide_eq_false h1]
    refine ⟨rfl, ?_⟩
    rw [if_pos rfl]
    refine se_raise ?_
    rw [sat_cons, sat_c, sat_nil]
    exact ⟨sl1, g⟩
theorem parted_yes {rs : List Row} {t : T} {x : Row} {new : Str} {ps : List (List Nat)} {st : Store} {Q : PV → Store → Prop} (hf : T.Fit 3 4 t) (hok : ∀ r ∈ rs, r.Ok) (hrl : rs.length ≤ 1000) (hx : rs.find? (rowP x.n) = some x) (hxo : x.Ok) (hn : new ∉ rs.map (·.n)) (hnl : new.length ≤ 40) (hp : ∀ p ∈ ps, p ∈ pathsR x.n t)
    (k : ∀ s, Gr [] st s → Q (gamePv ((rs ++ [Row.mk new x.o x.ws]).mergeSort rowLe) (renS new (fun q => decide (q ∈ ps)) t)) s) : Sat (m_parted [gamePv rs t, .str x.n, .lst (ps.map pathPv), .str new] st) Q := by
  refine sat_body ?_
  unfold f_parted
  generalize hg : gamePv rs t = g0
  simp only [List.map_cons, List.map_nil, List.length_cons, List.length_nil, Nat.reduceAdd, Nat.reduceSub, List.reduceReplicate, List.cons_append, List.nil_append]
  have ro : ∀ nm s, m_row_of [g0, .str nm] s = .ok (optPv (rs.find? (rowP nm))) s := fun nm s => by rw [← hg]; exact row_of_eq
  have gix0 : ∀ (s : Store) (Q : PV → Store → Prop), Sat (pIx g0 (.int 0) s) Q = Q (.tup (rs.map Row.pv)) s := fun s Q => by rw [← hg]; unfold gamePv; rw [o_ixT, ixW_0]
  have gix1 : ∀ (s : Store) (Q : PV → Store → Prop), Sat (pIx g0 (.int 1) s) Q = Q t.pv s := fun s Q => by rw [← hg]; unfold gamePv; rw [o_ixT, ixW_1]
  rw [ss_seq, ss_set, sat_call, sat_cons, sat_var rfl, sat_cons, sat_var rfl, sat_nil, ro, sat_ok, hx]
  refine ⟨rfl, ?_⟩
  rw [ss_seq, ss_if, sat_test, sat_bin, sat_call, sat_cons, sat_var rfl, sat_cons, sat_var rfl, sat_nil, ro, sat_ok]
  refine ⟨rfl, ?_⟩
  rw [sat_c, opt_isNot, find_name, decide_eq_false hn, sat_truth, if_neg (by simp), ss_nil]
  rw [ss_seq, ss_set, sat_call, sat_cons, sat_bin, sat_var rfl, sat_c, gix1, sat_cons, sat_var rfl, sat_nil]
  refine ⟨rfl, paths_ok 60 4 t st _ hf (by decide) (by decide) (by decide) fun v s rd g => ?_⟩
  refine seq_mid (fun e s' => s' = s ∧ ∃ w, e = ([some g0, some (.str x.n), some (.lst (ps.map pathPv)), some (.str new), some (optPv (some x)), some v, w, none] : PEnv)) ?_ ?_
  · rw [ss_for, sat_iVal, sat_var rfl, o_itL]
    refine for_invN (k := 0) (fun i e s' => s' = s ∧ ∃ w, e = ([some g0, some (.str x.n), some (.lst (ps.map pathPv)), some (.str new), some (optPv (some x)), some v, w, none] : PEnv)) ⟨rfl, _, rfl⟩ ?_ (fun e s' h => h)
    rintro i w e s' hw ⟨rfl, y, rfl⟩
    rw [List.getElem?_map] at hw
    cases ep : ps[i]? with
    | none => rw [ep] at hw; cases hw
    | some p =>
      rw [ep] at hw
      cases hw
      refine ⟨_, rfl, ?_⟩
      rw [ss_if, sat_test, sat_bin, sat_var rfl, sat_var rfl, (o_inPaths (p := p) (ps := pathsR x.n t) rd.seq).2, sat_truth, decide_eq_true (hp p (List.mem_of_getElem? ep)), Bool.not_true, if_neg (by simp), ss_nil]
      exact ⟨rfl, _, rfl⟩
  rintro e s' ⟨rfl, w, rfl⟩
  rw [ss_seq, ss_set, sat_bin, sat_var rfl, sat_c, gix1]
  refine seq_mid (fun e s => s = s' ∧ ∃ w, e = ([some g0, some (.str x.n), some (.lst (ps.map pathPv)), some (.str new), some (optPv (some x)), some v, w, some (renS new (fun q => decide (q ∈ ps)) t).pv] : PEnv)) ?_ ?_
  · rw [ss_for, sat_iVal, sat_var rfl, o_itL]
    refine for_invN (k := 0) (fun i e s => s = s' ∧ ∃ w, e = ([some g0, some (.str x.n), some (.lst (ps.map pathPv)), some (.str new), some (optPv (some x)), some v, w, some (renS new (fun q => decide (q ∈ ps.take i)) t).pv] : PEnv)) ⟨rfl, w, ?_⟩ ?_ ?_
    · rw [renS_none hf _ fun p => by simp]
      rfl
    · rintro i w e s hw ⟨rfl, y, rfl⟩
      rw [List.getElem?_map] at hw
      cases ep : ps[i]? with
      | none => rw [ep] at hw; cases hw
      | some p =>
        rw [ep] at hw
        cases hw
        rw [Nat.zero_add]
        refine ⟨_, rfl, ?_⟩
        obtain ⟨pr, cs, wk⟩ := mem_pathsR.mp (hp p (List.mem_of_getElem? ep))
        have dp := (wk.deep hf).1
        obtain ⟨pr', wk'⟩ := renS_walk (new := new) (S := fun q => decide (q ∈ ps.take i)) wk
        have hfit := fit_ren hf (new := new) (by omega) (fun q => decide (q ∈ ps.take i))
        rw [renS] at wk'
        have e9 := setAt_ren (new := new) wk' rfl hfit
        generalize hcs : renSs new (fun q => decide (p ++ q ∈ ps.take i)) 0 cs = cs' at wk' e9
        rw [ss_set, sat_call, sat_cons, sat_var rfl, sat_cons, sat_var rfl, sat_cons, sat_args, sat_cons, sat_var rfl, sat_cons, sat_bin, sat_call, sat_cons, sat_var rfl, sat_cons, sat_var rfl, sat_nil, node_at_eq wk' (by omega), sat_ok]
        refine ⟨rfl, ?_⟩
        rw [sat_c, node_pv, o_ixT, ixW_1, sat_nil, sat_tup]
        refine ⟨sl2, ?_⟩
        rw [sat_nil]
        refine ⟨rfl, ?_⟩
        have ey : PV.tup [.str new, .tup (T.pvs cs')] = (T.node new cs').pv := node_pv.symm
        rw [ey]
        show Sat (fuelF 6 f_replaced 60 [(renS new (fun q => decide (q ∈ ps.take i)) t).pv, pathPv p, (T.node new cs').pv] s) _
        have hfit2 : T.Fit 10 10 (renS new (fun q => decide (q ∈ ps.take i)) t) := hfit.mono (by decide) (by decide)
        rw [replaced_eq 60 s wk' (by omega) (by omega) hfit2, sat_ok]
        have e10 : (fun q => (fun q => decide (q = p)) q || (fun q => decide (q ∈ ps.take i)) q) = fun q => decide (q ∈ ps.take (i + 1)) := by
          funext q
          rw [List.take_add_one, ep, Bool.eq_iff_iff]
          simp only [Bool.or_eq_true, decide_eq_true_eq, List.mem_append]
          simp only [Option.toList_some, List.mem_singleton]
          exact Or.comm
        rw [e9, renS_or hf, e10]
        exact ⟨rfl, _, rfl⟩
    · rintro e s ⟨rfl, y, rfl⟩
      rw [List.length_map, Nat.zero_add, List.take_length]
      exact ⟨rfl, _, rfl⟩
  rintro e s ⟨rfl, w, rfl⟩
  have xe : optPv (some x) = x.pv := rfl
  rw [xe]
  rw [ss_ret, sat_args, sat_cons, sat_call, sat_cons, sat_bin, sat_var rfl, sat_c, gix0, sat_cons, sat_args, sat_cons, sat_var rfl, sat_cons, sat_bin, sat_var rfl, sat_c, row_ix1, sat_cons, sat_bin, sat_var rfl, sat_c, row_ix2, sat_nil, sat_tup]
  refine ⟨sl3, ?_⟩
  rw [sat_nil]
  refine ⟨rfl, ?_⟩
  have e3 : PV.tup [.str new, .int x.o, .tup (ints' x.ws)] = (Row.mk new x.o x.ws).pv := rfl
  rw [e3, with_row_eq (x := Row.mk new x.o x.ws) hok ⟨hnl, hxo.w1, hxo.w2, hxo.m⟩ hrl, sat_ok, sat_cons, sat_var rfl, sat_nil, sat_tup]
  exact ⟨sl2, k s g⟩
theorem parted_or_ok {rs : List Row} {t : T} {x : Row} {new : Str} {ps : List (List Nat)} {st : Store} {Q : PV → Store → Prop} (hf : T.Fit 3 4 t) (hok : ∀ r ∈ rs, r.Ok) (hrl : rs.length ≤ 1000) (hx : rs.find? (rowP x.n) = some x) (hxo : x.Ok) (hl : ps.length ≤ 10000) (hnl : new ∉ rs.map (·.n) → new.length ≤ 40)
    (k1 : new ∈ rs.map (·.n) → Q (.lst [.str "meet", .bl false]) st) (k2 : new ∉ rs.map (·.n) → (∃ p ∈ ps, p ∉ pathsR x.n t) → ∀ s, Gr [] st s → Q (.lst [.str "path", .bl false]) s)
    (k3 : new ∉ rs.map (·.n) → (∀ p ∈ ps, p ∈ pathsR x.n t) → ∀ s, Gr [] st s → Q (gamePv ((rs ++ [Row.mk new x.o x.ws]).mergeSort rowLe) (renS new (fun q => decide (q ∈ ps)) t)) s) :
    Sat (m_law_parted_or [gamePv rs t, .str x.n, .lst (ps.map pathPv), .str new] st) Q := by
  refine sat_body ?_
  unfold f_law_parted_or
  simp only [List.map_cons, List.map_nil, List.length_cons, List.length_nil, Nat.reduceAdd, Nat.reduceSub, List.reduceReplicate, List.cons_append, List.nil_append]
  have hargs : (aCons (eVar 0) (aCons (eVar 1) (aCons (eVar 2) (aCons (eVar 3) aNil)))) [some (gamePv rs t), some (.str x.n), some (.lst (ps.map pathPv)), some (.str new), none] st = .ok [gamePv rs t, .str x.n, .lst (ps.map pathPv), .str new] st := det fun Q k => by
    rw [sat_cons, sat_var rfl, sat_cons, sat_var rfl, sat_cons, sat_var rfl, sat_cons, sat_var rfl, sat_nil]; exact k
  by_cases hn : new ∈ rs.map (·.n)
  · have he := ret_err (n := 4) hargs rfl (parted_meet (a := x.n) (v := .lst (ps.map pathPv)) hn)
    refine .rt _ _ ?_ (k1 hn)
    unfold sTryM
    rw [he]
    refine pick_ret (v := .lst [.str "meet", .bl false]) (s2 := st) (c := ⟨"NamesMeet", 4, _⟩) (by rfl) fun ad => rt_of ?_
    show SatS (sRet _ _ _) _ _
    rw [ss_ret, sat_args, sat_cons, sat_c, sat_cons, sat_isE0 rfl, sat_nil, sat_lst]
    exact ⟨sl2, rfl, rfl⟩
  · by_cases hp : ∃ p ∈ ps, p ∉ pathsR x.n t
    · obtain ⟨s, e, g⟩ := parted_path (st := st) hf hn hl hp
      have he := ret_err (n := 4) hargs rfl e
      refine .rt _ _ ?_ (k2 hn hp s g)
      unfold sTryM
      rw [he]
      refine pick_ret (v := .lst [.str "path", .bl false]) (s2 := s) (c := ⟨"BadPath", 4, _⟩) (by rfl) fun ad => rt_of ?_
      show SatS (sRet _ _ _) _ _
      rw [ss_ret, sat_args, sat_cons, sat_c, sat_cons, sat_isE0 rfl, sat_nil, sat_lst]
      exact ⟨sl2, rfl, rfl⟩
    · have hp' : ∀ p ∈ ps, p ∈ pathsR x.n t := fun p m => by
        by_cases h : p ∈ pathsR x.n t
        · exact h
        · exact absurd ⟨p, m, h⟩ hp
      refine ss_tryM ?_
      rw [ss_ret, sat_callX, hargs, sat_ok]
      exact ⟨rfl, parted_yes hf hok hrl hx hxo hn (hnl hn) hp' fun s g => k3 hn hp' s g⟩
end PL
/-! PL, part QL: can be put together, by the law; pairs of sets. -/
namespace PL
open PySem PySem.Spec PyProof.Rows L2
def passQ (a b : Str) (q : Nd) : Bool := (decide (q.2.1.nm = a) && decide (b ∈ onWay q)) || (decide (q.2.1.nm = b) && decide (a ∈ onWay q))
theorem passQ_any {a b : Str} {t : T} : (nodesR t).any (passQ a b) = (passes a b t || passes b a t) := by
  unfold passes passQ
  induction nodesR t with
  | nil => rfl
  | cons q qs ih =>
    rw [List.any_cons, List.any_cons, List.any_cons, ih]
    cases (decide (q.2.1.nm = a) && decide (b ∈ onWay q)) <;> cases (decide (q.2.1.nm = b) && decide (a ∈ onWay q)) <;> simp
theorem can_mingle_eq {rs : List Row} {t : T} {a b : Str} {st : Store} (hf : T.Fit 3 4 t) : m_law_can_mingle [gamePv rs t, .str a, .str b] st = .ok (.bl (canM rs t a b)) st := by
  refine det fun Q k => sat_body ?_
  unfold f_law_can_mingle
  generalize hg : gamePv rs t = g0
  simp only [List.map_cons, List.map_nil, List.length_cons, List.length_nil, Nat.reduceAdd, Nat.reduceSub, List.reduceReplicate, List.cons_append, List.nil_append]
  have gix0 : ∀ (s : Store) (Q : PV → Store → Prop), Sat (pIx g0 (.int 0) s) Q = Q (.tup (rs.map Row.pv)) s := fun s Q => by rw [← hg]; unfold gamePv; rw [o_ixT, ixW_0]
  have gix1 : ∀ (s : Store) (Q : PV → Store → Prop), Sat (pIx g0 (.int 1) s) Q = Q t.pv s := fun s Q => by rw [← hg]; unfold gamePv; rw [o_ixT, ixW_1]
  rw [canM_eq] at k
  rw [ss_seq, ss_set, sat_call, sat_cons, sat_bin, sat_var rfl, sat_c, gix0, sat_cons, sat_var rfl, sat_nil, law_row_eq, sat_ok]
  refine ⟨rfl, ?_⟩
  rw [ss_seq, ss_set, sat_call, sat_cons, sat_bin, sat_var rfl, sat_c, gix0, sat_cons, sat_var rfl, sat_nil, law_row_eq, sat_ok]
  refine ⟨rfl, ?_⟩
  rw [ss_guard (alike_test (a := a) (b := b) (r1 := rs.find? (rowP a)) (r2 := rs.find? (rowP b)) rfl rfl rfl rfl)]
  cases hs : sameRow a b (rs.find? (rowP a)) (rs.find? (rowP b)) with
  | false =>
    rw [Bool.not_false, if_pos rfl]
    rw [hs, Bool.false_and] at k
    exact k
  | true =>
    rw [Bool.not_true, if_neg (by simp)]
    rw [hs, Bool.true_and, ← passQ_any] at k
    rw [ss_seq, ss_for, sat_iVal, sat_call, sat_cons, sat_bin, sat_var rfl, sat_c, gix1, sat_cons, sat_args, sat_nil, sat_tup]
    refine ⟨sl0, ?_⟩
    rw [sat_cons, sat_args, sat_nil, sat_tup]
    refine ⟨sl0, ?_⟩
    rw [sat_nil]
    refine ⟨rfl, ?_⟩
    show Sat (fuelF 5 f_law_nodes 60 [t.pv, pathPv [], pairsPv []] st) _
    rw [nodes_eq 60 4 t [] [] st hf (by decide) (by decide) (by decide) (by decide), sat_ok, o_itL]
    refine for_invN (k := 0) (fun i e s => s = st ∧ (∃ c5 c6 c7 c8, e = ([some g0, some (.str a), some (.str b), some (optPv (rs.find? (rowP a))), some (optPv (rs.find? (rowP b))), c5, c6, c7, c8, none] : PEnv)) ∧ ((nodesR t).take i).any (passQ a b) = false) ⟨rfl, ⟨_, _, _, _, rfl⟩, by simp⟩ ?_ ?_
    · rintro i v e s hv ⟨rfl, ⟨c5, c6, c7, c8, rfl⟩, ha⟩
      rw [List.getElem?_map] at hv
      cases eq : (nodesR t)[i]? with
      | none => rw [eq] at hv; cases hv
      | some q =>
        rw [eq] at hv
        cases hv
        rw [Nat.zero_add] at ha ⊢
        have mq := List.mem_of_getElem? eq
        obtain ⟨wk, n, cs, en⟩ := walk_of_mem mq
        have dp := (wk.deep hf).1
        have pl := wk.len
        refine ⟨[some g0, some (.str a), some (.str b), some (optPv (rs.find? (rowP a))), some (optPv (rs.find? (rowP b))), some (pathPv ([] ++ q.1)), some q.2.1.pv, some (pairsPv ([] ++ q.2.2)), c8, none], rfl, ?_⟩
        rw [List.nil_append, List.nil_append]
        have hnm : q.2.1.nm = n := by rw [en]; rfl
        rw [ss_seq, ss_set]
        refine names_of (pr := q.2.2) (by simp) (by omega) ?_
        rw [sat_iVal, sat_var rfl]
        unfold pairsPv
        rw [o_itT]
        refine ⟨rfl, ?_⟩
        have ixn : ∀ Q : PV → Store → Prop, Sat (pIx q.2.1.pv (.int 0) s) Q = Q (.str n) s := fun Q => by rw [en, node_pv, o_ixT, ixW_0]
        have test : ∀ (e : PEnv), e[1]? = some (some (.str a)) → e[2]? = some (some (.str b)) → e[6]? = some (some q.2.1.pv) → e[8]? = some (some (.lst ((q.2.2.map (·.1)).map PV.str))) →
            (tOrM (tAndM (eTest (eBin pEq (eBin pIx (eVar 6) (eC (.int 0))) (eVar 1))) (eTest (eBin pIn (eVar 2) (eVar 8)))) (tAndM (eTest (eBin pEq (eBin pIx (eVar 6) (eC (.int 0))) (eVar 2))) (eTest (eBin pIn (eVar 1) (eVar 8))))) e s = .ok (passQ a b q) s := fun e h1 h2 h6 h8 => det fun Q k => by
          unfold passQ onWay at k
          rw [hnm] at k
          have second : Q (decide (n = b) && decide (a ∈ q.2.2.map (·.1))) s → Sat (tAndM (eTest (eBin pEq (eBin pIx (eVar 6) (eC (.int 0))) (eVar 2))) (eTest (eBin pIn (eVar 1) (eVar 8))) e s) Q := fun k => by
            rw [sat_and, sat_test, sat_bin, sat_bin, sat_var h6, sat_c, ixn, sat_var h2, o_eqS, sat_truth]
            by_cases e2 : n = b
            · rw [decide_eq_true e2, if_pos rfl, sat_test, sat_bin, sat_var h1, sat_var h8, o_inStrs, sat_truth]
              rw [decide_eq_true e2, Bool.true_and] at k; exact k
            · rw [decide_eq_false e2, if_neg (by simp)]
              rw [decide_eq_false e2, Bool.false_and] at k; exact k
          rw [sat_or, sat_and, sat_test, sat_bin, sat_bin, sat_var h6, sat_c, ixn, sat_var h1, o_eqS, sat_truth]
          by_cases e1 : n = a
          · rw [decide_eq_true e1, Bool.true_and] at k
            rw [decide_eq_true e1, if_pos rfl, sat_test, sat_bin, sat_var h2, sat_var h8, o_inStrs, sat_truth]
            by_cases e3 : b ∈ q.2.2.map (·.1)
            · rw [decide_eq_true e3, if_pos rfl]
              rw [decide_eq_true e3, Bool.true_or] at k; exact k
            · rw [decide_eq_false e3, if_neg (by simp)]
              rw [decide_eq_false e3, Bool.false_or] at k; exact second k
          · rw [decide_eq_false e1, Bool.false_and, Bool.false_or] at k
            rw [decide_eq_false e1, if_neg (by simp), if_neg (by simp)]
            exact second k
        rw [ss_if, test _ rfl rfl rfl rfl, sat_ok]
        have hlast : ((nodesR t).take (i + 1)).any (passQ a b) = passQ a b q := by
          rw [List.take_add_one, eq, List.any_append, ha]
          simp
        cases hp : passQ a b q with
        | true =>
          rw [if_pos rfl, ss_ret, sat_c]
          have : (nodesR t).any (passQ a b) = true := List.any_eq_true.mpr ⟨q, mq, hp⟩
          rw [this] at k
          exact k
        | false =>
          rw [if_neg (by simp), ss_nil]
          exact ⟨rfl, ⟨_, _, _, _, rfl⟩, by rw [hlast, hp]⟩
    · rintro e s ⟨rfl, ⟨c5, c6, c7, c8, rfl⟩, ha⟩
      rw [List.length_map, Nat.zero_add, List.take_length] at ha
      rw [ss_ret, sat_c]
      rw [ha] at k
      exact k
/-! ### pairs -/
def spPv (q : Str × Str) : PV := .tup [.str q.1, .str q.2]
def spairs (rs : List Row) (P : Row → Row → Bool) (xs : List Row) : List (Str × Str) := xs.flatMap fun r => (rs.filter fun o => P r o).map fun o => (r.n, o.n)
theorem spairs_len {rs : List Row} {P : Row → Row → Bool} : ∀ xs : List Row, (spairs rs P xs).length ≤ xs.length * rs.length
  | [] => by simp [spairs]
  | x :: xs => by
    have := spairs_len (rs := rs) (P := P) xs
    have h2 := List.length_filter_le (fun o => P x o) rs
    unfold spairs at this ⊢
    rw [List.flatMap_cons, List.length_append, List.length_map, List.length_cons, Nat.add_mul, Nat.one_mul]
    omega
theorem pair_loop {rs : List Row} {mk : Option PV → Option PV → PEnv} {l : Nat} {tg1 tg2 : Tg} {itm : IM} {body : SM} {P : Row → Row → Bool} {I : Store → Prop} {st : Store} {a0 b0 : Option PV} {R : PV → Store → Prop} (hl : rs.length ≤ 400)
    (h1 : ∀ a b v, setTg tg1 v (mk a b) = some (mk (some v) b)) (h2 : ∀ a b v, setTg tg2 v (mk a b) = some (mk a (some v))) (hit : ∀ a b s (Qx : Itms → Store → Prop), Qx ⟨rs.map Row.pv, none⟩ s → Sat (itm (mk a b) s) Qx)
    (hb : ∀ r ∈ rs, ∀ o ∈ rs, ∀ (s : Store) (acc : List (Str × Str)), acc.length ≤ 200000 → s[l]? = some (.lst (acc.map spPv)) → I s →
      SatS (body (mk (some r.pv) (some o.pv)) s) (fun e s' => e = mk (some r.pv) (some o.pv) ∧ I s' ∧ s'[l]? = some (.lst ((acc ++ if P r o = true then [(r.n, o.n)] else []).map spPv))) R)
    (hs : st[l]? = some (.lst [])) (hI : I st) : SatS (sFor itm tg1 (sFor itm tg2 body) (mk a0 b0) st) (fun e s' => (∃ a b, e = mk a b) ∧ I s' ∧ s'[l]? = some (.lst ((spairs rs P rs).map spPv))) R := by
  rw [ss_for]
  refine hit _ _ _ _ ?_
  have sq : rs.length * rs.length ≤ 160000 := Nat.mul_le_mul hl hl
  have tk : ∀ i, (spairs rs P (rs.take i)).length ≤ 160000 := fun i => by
    have := spairs_len (rs := rs) (P := P) (rs.take i)
    have h3 : (rs.take i).length ≤ rs.length := by rw [List.length_take]; omega
    have := Nat.mul_le_mul_right rs.length h3
    omega
  refine for_invN (k := 0) (fun i e s' => (∃ a b, e = mk a b) ∧ I s' ∧ s'[l]? = some (.lst ((spairs rs P (rs.take i)).map spPv))) ⟨⟨_, _, rfl⟩, hI, by simpa [spairs] using hs⟩ ?_ ?_
  · rintro i v e s hv ⟨⟨a, b, rfl⟩, hI, hs⟩
    rw [List.getElem?_map] at hv
    cases er : rs[i]? with
    | none => rw [er] at hv; cases hv
    | some r =>
      rw [er] at hv
      cases hv
      have mr := List.mem_of_getElem? er
      rw [Nat.zero_add] at hs ⊢
      refine ⟨_, h1 _ _ _, ?_⟩
      rw [ss_for]
      refine hit _ _ _ _ ?_
      refine for_invN (k := 0) (fun j e s' => (∃ b, e = mk (some r.pv) b) ∧ I s' ∧ s'[l]? = some (.lst ((spairs rs P (rs.take i) ++ ((rs.take j).filter fun o => P r o).map fun o => (r.n, o.n)).map spPv))) ⟨⟨_, rfl⟩, hI, by simpa using hs⟩ ?_ ?_
      · rintro j v e s hv ⟨⟨b, rfl⟩, hI, hs⟩
        rw [List.getElem?_map] at hv
        cases eo : rs[j]? with
        | none => rw [eo] at hv; cases hv
        | some o =>
          rw [eo] at hv
          cases hv
          rw [Nat.zero_add] at hs ⊢
          refine ⟨_, h2 _ _ _, ?_⟩
          refine (hb r mr o (List.mem_of_getElem? eo) s _ ?_ hs hI).mono ?_ fun _ _ z => z
          · rw [List.length_append, List.length_map]
            have := tk i
            have h4 := List.length_filter_le (fun o => P r o) (rs.take j)
            have h5 : (rs.take j).length ≤ rs.length := by rw [List.length_take]; omega
            omega
          · rintro e s' ⟨rfl, h3, h4⟩
            refine ⟨⟨_, rfl⟩, h3, ?_⟩
            rw [h4, List.take_add_one, eo, List.filter_append, List.append_assoc]
            cases hp : P r o <;> simp [hp]
      · rintro e s ⟨⟨b, rfl⟩, hI, hs⟩
        rw [List.length_map, Nat.zero_add, List.take_length] at hs
        refine ⟨⟨_, _, rfl⟩, hI, ?_⟩
        rw [hs, List.take_add_one, er]
        simp [spairs]
  · rintro e s ⟨h3, hI, hs⟩
    rw [List.length_map, Nat.zero_add, List.take_length] at hs
    exact ⟨h3, hI, hs⟩
theorem strLt_irr (a : Str) : strLt a a = false := by
  unfold strLt
  rw [PySem.W.dataLt_str]
  simp
def pairP (rs : List Row) (t : T) (r o : Row) : Bool := strLt r.n o.n && canM rs t r.n o.n
theorem pairP_eq {rs : List Row} {t : T} {r o : Row} (nd : (rs.map (·.n)).Nodup) (hr : r ∈ rs) (ho : o ∈ rs) : pairP rs t r o = (strLt r.n o.n && ((decide (r.o = o.o) && decide (r.ws = o.ws)) && !(passes r.n o.n t || passes o.n r.n t))) := by
  unfold pairP
  rw [canM_eq, find_mem nd hr, find_mem nd ho]
  cases h : strLt r.n o.n with
  | false => rfl
  | true =>
    have : r.n ≠ o.n := fun e => by rw [e, strLt_irr] at h; cases h
    simp [sameRow, this]
theorem set_pairs_ok {rs : List Row} {t : T} {st : Store} {Q : PV → Store → Prop} (hf : T.Fit 3 4 t) (nd : (rs.map (·.n)).Nodup) (hl : rs.length ≤ 400) (k : ∀ s, Gr [] st s → s[st.length]? = some (.lst ((spairs rs (pairP rs t) rs).map spPv)) → Q (.loc st.length) s) :
    Sat (m_set_pairs [gamePv rs t] st) Q := by
  refine sat_body ?_
  unfold f_set_pairs
  generalize hg : gamePv rs t = g0
  simp only [List.map_cons, List.map_nil, List.length_cons, List.length_nil, Nat.reduceAdd, Nat.reduceSub, List.reduceReplicate, List.cons_append, List.nil_append]
  have gix0 : ∀ (s : Store) (Q : PV → Store → Prop), Sat (pIx g0 (.int 0) s) Q = Q (.tup (rs.map Row.pv)) s := fun s Q => by rw [← hg]; unfold gamePv; rw [o_ixT, ixW_0]
  rw [ss_seq, ss_set, sat_args, sat_nil, sat_loc]
  refine ⟨sl0, ?_⟩
  have h0 : (st ++ [PO.lst []])[st.length]? = some (.lst []) := by simp
  have g0' : Gr [] st (st ++ [PO.lst []]) := .app
  generalize st ++ [PO.lst []] = s0 at *
  generalize hll : st.length = l at *
  rw [ss_seq]
  refine (pair_loop (rs := rs) (mk := fun a b => [some g0, some (.loc l), a, b]) (l := l) (P := pairP rs t) (I := fun s => Gr [l] s0 s) (st := s0) (a0 := none) (b0 := none) hl (fun _ _ _ => rfl) (fun _ _ _ => rfl) (fun a b s Qx q => by rw [sat_iVal, sat_bin, sat_var rfl, sat_c, gix0, o_itT]; exact q) ?_ h0 .refl).mono ?_ fun _ _ z => z
  · intro r mr o mo s acc hacc hs hI
    rw [ss_if]
    rw [pairP_eq nd mr mo]
    have done : ∀ s', Gr [] s s' → SatS (sExpr (eMeth isListP pAppend (eVar 1) (aCons (eArgs mkTup (aCons (eBin pIx (eVar 2) (eC (.int 0))) (aCons (eBin pIx (eVar 3) (eC (.int 0))) aNil))) aNil)) [some g0, some (.loc l), some r.pv, some o.pv] s') (fun e s' => e = ([some g0, some (.loc l), some r.pv, some o.pv] : PEnv) ∧ Gr [l] s0 s' ∧ s'[l]? = some (.lst ((acc ++ [(r.n, o.n)]).map spPv))) Q := fun s' gs => by
      have hs' := gs.at' hs (by simp)
      rw [ss_expr, sat_meth, sat_var rfl]
      refine ⟨o_isL hs', ?_⟩
      rw [sat_cons, sat_args, sat_cons, sat_bin, sat_var rfl, sat_c, row_ix0, sat_cons, sat_bin, sat_var rfl, sat_c, row_ix0, sat_nil, sat_tup]
      refine ⟨sl2, ?_⟩
      rw [sat_nil, o_app hs']
      refine ⟨by rw [sizeLine_eq, List.length_map]; omega, rfl, hI.trans ((gs.mono (by simp)).trans (.set (by simp))), ?_⟩
      rw [List.getElem?_set_self (lt_of_some hs')]
      simp [spPv]
    rw [sat_and, sat_test, sat_bin, sat_bin, sat_var rfl, sat_c, row_ix0, sat_bin, sat_var rfl, sat_c, row_ix0, o_ltS, sat_truth]
    cases h1 : strLt r.n o.n with
    | false =>
      rw [if_neg (by simp), if_neg (by simp), ss_nil, Bool.false_and, if_neg (by simp), List.append_nil]
      exact ⟨rfl, hI, hs⟩
    | true =>
      rw [if_pos rfl, sat_and, sat_test, sat_bin, sat_sl, sat_var rfl, sat_oSome, sat_c]
      show Sat (oNone _ s) _
      rw [sat_oNone]
      show Sat (pSl r.pv (some 1) none s) _
      rw [row_tail, sat_sl, sat_var rfl, sat_oSome, sat_c]
      show Sat (oNone _ s) _
      rw [sat_oNone]
      show Sat (pSl o.pv (some 1) none s) _
      rw [row_tail, eq_tail, sat_truth, Bool.true_and]
      cases h2 : (decide (r.o = o.o) && decide (r.ws = o.ws)) with
      | false =>
        rw [if_neg (by simp), if_neg (by simp), ss_nil, Bool.false_and, if_neg (by simp), List.append_nil]
        exact ⟨rfl, hI, hs⟩
      | true =>
        rw [if_pos rfl, sat_not, sat_test, sat_call, sat_cons, sat_var rfl, sat_cons, sat_bin, sat_var rfl, sat_c, row_ix0, sat_cons, sat_bin, sat_var rfl, sat_c, row_ix0, sat_nil]
        refine ⟨rfl, ?_⟩
        rw [← hg]
        unfold gamePv
        refine one_way_ok hf fun s' gs => ?_
        rw [sat_truth, Bool.true_and]
        have hgg : PV.tup [.tup (rs.map Row.pv), t.pv] = g0 := hg
        cases h3 : (passes r.n o.n t || passes o.n r.n t) with
        | true =>
          rw [Bool.not_true, if_neg (by simp), ss_nil, if_neg (by simp), List.append_nil, hgg]
          exact ⟨rfl, hI.trans (gs.mono (by simp)), gs.at' hs (by simp)⟩
        | false =>
          rw [Bool.not_false, if_pos rfl, if_pos rfl, hgg]
          exact done s' gs
  · rintro e s ⟨⟨a, b, rfl⟩, hI, hs⟩
    rw [ss_ret, sat_var rfl]
    refine k s ?_ hs
    exact ((g0'.mono (by simp)).trans hI).cut (by
      intro j hj hlt'
      simp only [List.mem_singleton] at hj
      omega)
end PL
/-! PL, part QM: sets told apart by what was chosen before. -/
namespace PL
open PySem PySem.Spec PyProof.Rows L2
/-! ### the names of marks -/
def stemN (w : Int) : Str := if w = 1 then "againone" else "againtwo"
def markN (w : Int) (k : Nat) : Str := stemN w ++ strInt (k : Int)
theorem stem_len (w : Int) : (stemN w).length = 8 := by
  unfold stemN
  split <;> decide +kernel
theorem mark_len {w : Int} {k : Nat} (h : k < 1000) : 9 ≤ (markN w k).length ∧ (markN w k).length ≤ 11 := by
  unfold markN
  rw [len_app, stem_len]
  have h1 := (unStr_ok ⟨k, h⟩).2
  have h2 := str_len (k : Int) (by omega) (by omega)
  simp only at h1
  omega
theorem mark_inj {w : Int} {k j : Nat} (hk : k < 1000) (hj : j < 1000) (h : markN w k = markN w j) : k = j := str_inj hk hj (app_inj h)
theorem mark_stem {w v : Int} {k j : Nat} (h : markN w k = markN v j) : stemN w = stemN v := by
  have h2 := congrArg (fun s : Str => s.cps.toList.take 8) h
  simp only [markN, app_list] at h2
  have l : ∀ w, (stemN w).cps.toList.length = 8 := fun w => by rw [Array.length_toList]; exact stem_len w
  rw [List.take_append_of_le_length (by rw [l]; exact Nat.le_refl _), List.take_append_of_le_length (by rw [l]; exact Nat.le_refl _), List.take_of_length_le (by rw [l]; exact Nat.le_refl _), List.take_of_length_le (by rw [l]; exact Nat.le_refl _)] at h2
  exact str_ext h2
theorem stem_ne : ("againone" : Str) ≠ "againtwo" := by decide +kernel
theorem mark_name_eq {w : Int} {k : Nat} {st : Store} (hw : w = 1 ∨ w = 2) (hk : k < 1000) : m_law_mark_name [.int w, .int (k : Int)] st = .ok (.str (markN w k)) st := by
  refine det fun Q kk => sat_body ?_
  unfold f_law_mark_name
  simp only [List.map_cons, List.map_nil, List.length_cons, List.length_nil, Nat.reduceAdd, Nat.reduceSub, List.reduceReplicate, List.cons_append, List.nil_append]
  rw [ss_ret, sat_bin, sat_bin, sat_c, sat_bin, sat_args, sat_cons, sat_c, sat_cons, sat_c, sat_cons, sat_c, sat_nil, sat_lst]
  refine ⟨sl3, ?_⟩
  rw [sat_var rfl, o_ixL]
  have la : ("again" : Str).length = 5 := by decide +kernel
  have lb : ("one" : Str).length = 3 := by decide +kernel
  have lc : ("two" : Str).length = 3 := by decide +kernel
  have e1 : ("again" : Str) ++ ("one" : Str) = "againone" := by decide +kernel
  have e2 : ("again" : Str) ++ ("two" : Str) = "againtwo" := by decide +kernel
  have l8 := stem_len w
  have hs := str_len (k : Int) (by omega) (by omega)
  have fin : ∀ z : Str, ("again" : Str) ++ z = stemN w → z.length = 3 → Sat (pAdd (.str "again") (.str z) st) fun v s => Sat (eArgs (one pStr) (aCons (eVar 1) aNil) [some (.int w), some (.int (k : Int))] s) fun u s => Sat (pAdd v u s) Q := fun z hz lz => by
    rw [o_addS]
    refine ⟨by rw [sizeLine_eq]; omega, ?_⟩
    rw [sat_args, sat_cons, sat_var rfl, sat_nil, sat_one, o_str]
    refine ⟨log2_small (by omega), ?_⟩
    rw [o_addS, hz]
    exact ⟨by rw [sizeLine_eq]; omega, kk⟩
  rcases hw with rfl | rfl
  · rw [ixW_1]; exact fin "one" e1 lb
  · rw [ixW_2]; exact fin "two" e2 lc
/-! ### marks as data -/
abbrev Mark := Str × List (Str × Nat)
def mkPv (q : Mark) : PV := .tup [.str q.1, pairsPv q.2]
theorem isDs_pairs (p : List (Str × Nat)) : isDs (p.map pairPv) = true := by
  induction p with
  | nil => rfl
  | cons q p ih => rw [List.map_cons, isDs, ih]; simp [pairPv, isD, isDs]
theorem depth_pairs (p : List (Str × Nat)) : PyData.depthAll (toDs (p.map pairPv)) ≤ 1 := by
  induction p with
  | nil => simp [toDs, PyData.depthAll]
  | cons q p ih =>
    rw [List.map_cons, toDs, PyData.depthAll]
    have : (toD (pairPv q)).depth ≤ 1 := by simp [pairPv, toD, toDs, PyData.depth, PyData.depthAll]
    omega
theorem eqv_pair (p q : Str × Nat) : PyData.eqv (toD (pairPv p)) (toD (pairPv q)) = decide (p = q) := by
  unfold pairPv
  simp only [toD, toDs, PyData.eqv, PyData.eqvAll, Bool.and_true]
  obtain ⟨a, i⟩ := p
  obtain ⟨b, j⟩ := q
  by_cases h : a = b <;> by_cases h' : i = j <;> simp [h, h'] <;> omega
theorem eqv_pairs : ∀ (p q : List (Str × Nat)), PyData.eqvAll (toDs (p.map pairPv)) (toDs (q.map pairPv)) = decide (p = q)
  | [], [] => by simp [toDs, PyData.eqvAll]
  | [], _ :: _ => by simp [toDs, PyData.eqvAll]
  | _ :: _, [] => by simp [toDs, PyData.eqvAll]
  | x :: xs, y :: ys => by
    rw [List.map_cons, List.map_cons, toDs, toDs, PyData.eqvAll, eqv_pairs xs ys, eqv_pair]
    by_cases h : x = y <;> by_cases h' : xs = ys <;> simp [h, h']
theorem eqv_mark (p q : Mark) : PyData.eqv (toD (mkPv p)) (toD (mkPv q)) = decide (p = q) := by
  obtain ⟨a, x⟩ := p
  obtain ⟨b, y⟩ := q
  unfold mkPv pairsPv
  simp only [toD, toDs, PyData.eqv, PyData.eqvAll, Bool.and_true, eqv_pairs]
  by_cases h : a = b <;> by_cases h' : x = y <;> simp [h, h']
theorem isD_mark (q : Mark) : isD (mkPv q) = true := by simp [mkPv, pairsPv, isD, isDs, isDs_pairs]
theorem isDs_marks (ms : List Mark) : isDs (ms.map mkPv) = true := by
  induction ms with
  | nil => rfl
  | cons q ms ih => rw [List.map_cons, isDs, ih, isD_mark]; rfl
theorem depth_mark (q : Mark) : (toD (mkPv q)).depth ≤ 3 := by
  have := depth_pairs q.2
  simp only [mkPv, pairsPv, toD, toDs, PyData.depth, PyData.depthAll]
  omega
theorem notIn_marks {q : Mark} {ms : List Mark} {mp : Nat} {st : Store} {Q : PV → Store → Prop} (h : st[mp]? = some (.lst (ms.map mkPv))) : Sat (pNotIn (mkPv q) (.loc mp) st) Q = Q (.bl (!decide (q ∈ ms))) st := by
  have e : inD (mkPv q) (ms.map mkPv) = decide (q ∈ ms) := by
    unfold inD
    rw [List.any_map, Bool.eq_iff_iff]
    simp only [List.any_eq_true, Function.comp, decide_eq_true_eq, eqv_mark]
    constructor
    · rintro ⟨y, m, rfl⟩; exact m
    · exact fun m => ⟨q, m, rfl⟩
  have sq : seqOf st (.loc mp) = some (false, ms.map mkPv) := by unfold seqOf; simp only [h]
  have hd := depth_mark q
  have e1 : pNotIn (mkPv q) (.loc mp) st = .ok (.bl (!decide (q ∈ ms))) st := by
    have : pNotIn (mkPv q) (.loc mp) st = match seqOf st (.loc mp) with
      | some (_, xs) => if isD (mkPv q) = true ∧ isDs xs = true ∧ min (PyData.depthAll (toDs xs)) (toD (mkPv q)).depth ≤ 60 then .ok (.bl (!inD (mkPv q) xs)) st else .stuck
      | none => .stuck := by
      unfold pNotIn mkPv
      rfl
    rw [this, sq]
    show (if _ then _ else _) = _
    rw [if_pos ⟨isD_mark q, isDs_marks ms, by omega⟩, e]
  rw [e1, sat_ok]
theorem ixOf_mark {q : Mark} : ∀ {ms : List Mark}, q ∈ ms → ∃ j, ixOf (mkPv q) (ms.map mkPv) = some j ∧ ms[j]? = some q
  | [], h => by cases h
  | p :: ms, h => by
    rw [List.map_cons, ixOf, eqv_mark]
    by_cases e : p = q
    · rw [decide_eq_true e, if_pos rfl]
      exact ⟨0, rfl, by rw [e]; rfl⟩
    · rw [decide_eq_false e, if_neg (by simp)]
      have hm : q ∈ ms := by
        rcases List.mem_cons.mp h with z | z
        · exact absurd z.symm e
        · exact z
      obtain ⟨j, h1, h2⟩ := ixOf_mark hm
      exact ⟨j + 1, by rw [h1]; rfl, by simpa using h2⟩
theorem index_marks {q : Mark} {ms : List Mark} {mp : Nat} {st : Store} {Q : PV → Store → Prop} (h : st[mp]? = some (.lst (ms.map mkPv))) (hm : q ∈ ms) (hl : ms.length ≤ 1000) (k : ∀ j : Nat, ms[j]? = some q → Q (.int (j : Int)) st) : isSeqL (.loc mp) st = true ∧ Sat (pIndex (.loc mp) [mkPv q] st) Q := by
  have sq : seqOf st (.loc mp) = some (false, ms.map mkPv) := by unfold seqOf; simp only [h]
  obtain ⟨j, h1, h2⟩ := ixOf_mark hm
  have hd := depth_mark q
  refine ⟨by unfold isSeqL; rw [sq], ?_⟩
  have : pIndex (.loc mp) [mkPv q] st = .ok (.int (j : Nat)) st := by
    unfold pIndex
    simp only [sq]
    rw [if_pos ⟨isDs_marks ms, isD_mark q, by rw [List.length_map]; omega, by omega⟩, h1]
  rw [this, sat_ok]
  exact k j h2
/-! ### a tree and the marked tree -/
inductive MkR (rs : List Row) (who : Int) (ms : List Mark) : List (Str × Nat) → T → T → Prop
  | leaf {past : List (Str × Nat)} {z : Str} : MkR rs who ms past (.leaf z) (.leaf z)
  | other {past : List (Str × Nat)} {r : Row} {cs ds : List T} : r ∈ rs → r.o ≠ who → ds.length = cs.length → (∀ (i : Nat) (c d : T), cs[i]? = some c → ds[i]? = some d → MkR rs who ms past c d) → MkR rs who ms past (.node r.n cs) (.node r.n ds)
  | mine {past : List (Str × Nat)} {r : Row} {cs ds : List T} {j : Nat} : r ∈ rs → r.o = who → ms[j]? = some (r.n, past) → ds.length = cs.length →
      (∀ (i : Nat) (c d : T), cs[i]? = some c → ds[i]? = some d → MkR rs who ms (past ++ [(markN who j, i)]) c d) → MkR rs who ms past (.node r.n cs) (.node (markN who j) ds)
theorem MkR.mono {rs : List Row} {who : Int} {ms ms2 : List Mark} (h : ms <+: ms2) {past : List (Str × Nat)} {t t' : T} (m : MkR rs who ms past t t') : MkR rs who ms2 past t t' := by
  induction m with
  | leaf => exact .leaf
  | other h1 h2 h3 _ ih => exact .other h1 h2 h3 ih
  | @mine past r cs ds j h1 h2 h3 h4 _ ih =>
    refine .mine h1 h2 ?_ h4 ih
    obtain ⟨x, rfl⟩ := h
    rw [List.getElem?_append_left (List.getElem?_eq_some_iff.mp h3).1]
    exact h3
theorem marked_ok {rs : List Row} {who : Int} {mp : Nat} (hw : who = 1 ∨ who = 2) (nd : (rs.map (·.n)).Nodup) : ∀ (n d : Nat) (t : T) (past : List (Str × Nat)) (ms : List Mark) (st : Store) (Q : PV → Store → Prop), T.Fit 3 d t → d < n → d ≤ 4 → (∀ q ∈ nodesR t, ∃ r ∈ rs, r.n = q.2.1.nm) → past.length + d ≤ 100 →
    st[mp]? = some (.lst (ms.map mkPv)) → ms.length + (nodesR t).length ≤ 900 →
    (∀ t' ms' s, MkR rs who ms' past t t' → ms <+: ms' → ms'.length ≤ ms.length + (nodesR t).length → (∀ q ∈ ms', q ∈ ms ∨ ∃ r ∈ rs, r.n = q.1 ∧ r.o = who) → s[mp]? = some (.lst (ms'.map mkPv)) → Gr [mp] st s → Q t'.pv s) →
    Sat (fuelF 10 f_law_marked_for n [.tup (rs.map Row.pv), t.pv, .int who, pairsPv past, .loc mp] st) Q
  | 0, d, _, _, _, _, _, _, hn, _, _, _, _, _, _ => absurd hn (Nat.not_lt_zero _)
  | n + 1, _, .leaf z, past, ms, st, Q, .leaf hz, _, _, _, _, hm, _, k => by
    refine sat_body ?_
    unfold f_law_marked_for
    simp only [List.map_cons, List.map_nil, List.length_cons, List.length_nil, Nat.reduceAdd, Nat.reduceSub, List.reduceReplicate, List.cons_append, List.nil_append, leaf_pv]
    rw [ss_seq, ss_if, sat_test, sat_args, sat_cons, sat_var rfl, sat_cons, sat_c, sat_nil, isi_s, sat_truth, if_pos rfl, ss_ret, sat_var rfl]
    have := k (.leaf z) ms st .leaf ⟨[], by simp⟩ (by omega) (fun q m => .inl m) hm .refl
    rw [leaf_pv] at this
    exact this
  | n + 1, _, .node m cs, past, ms, st, Q, .node (d := d) h1 h2 h3, hn, hd, hdec, hp, hm, hml, k => by
    obtain ⟨r, mr, er⟩ := hdec ([], .node m cs, []) (by rw [nodesR]; exact List.mem_cons_self)
    have er : r.n = m := er
    have hfind : rs.find? (rowP m) = some r := by rw [← er]; exact find_mem nd mr
    have hmpl := lt_of_some hm
    refine sat_body ?_
    unfold f_law_marked_for
    have isn : ∀ s (Q : PV → Store → Prop), Sat (pIsi [(T.node m cs).pv, .con (.ty "str")] s) Q = Q (.bl false) s := fun s Q => by rw [node_pv]; exact isi_t
    have ix0 : ∀ s (Q : PV → Store → Prop), Sat (pIx (T.node m cs).pv (.int 0) s) Q = Q (.str m) s := fun s Q => by rw [node_pv, o_ixT, ixW_0]
    have ix1 : ∀ s (Q : PV → Store → Prop), Sat (pIx (T.node m cs).pv (.int 1) s) Q = Q (.tup (T.pvs cs)) s := fun s Q => by rw [node_pv, o_ixT, ixW_1]
    simp only [List.map_cons, List.map_nil, List.length_cons, List.length_nil, Nat.reduceAdd, Nat.reduceSub, List.reduceReplicate, List.cons_append, List.nil_append]
    rw [ss_seq, ss_if, sat_test, sat_args, sat_cons, sat_var rfl, sat_cons, sat_c, sat_nil, isn, sat_truth, if_neg (by simp), ss_nil]
    rw [ss_seq, ss_set, sat_bin, sat_var rfl, sat_c, ix0]
    rw [ss_seq, ss_set, sat_bin, sat_bin, sat_call, sat_cons, sat_var rfl, sat_cons, sat_var rfl, sat_nil, law_row_eq, sat_ok, hfind]
    refine ⟨rfl, ?_⟩
    rw [sat_c]
    show Sat (pIx r.pv (.int 1) st) _
    rw [row_ix1, sat_var rfl, o_eqI]
    -- the name: as it stands, or a mark's
    have lenR : (nodesR (T.node m cs)).length = 1 + (nodesRs m 0 cs).length := by rw [nodesR, List.length_cons]; omega
    refine seq_mid (fun e s => ∃ (nm : Str) (ms1 : List Mark), e = ([some (.tup (rs.map Row.pv)), some (T.node m cs).pv, some (.int who), some (pairsPv past), some (.loc mp), some (.str nm), some (.bl (decide (r.o = who))), none, none, none] : PEnv) ∧ s[mp]? = some (.lst (ms1.map mkPv)) ∧ ms <+: ms1 ∧ ms1.length ≤ ms.length + 1 ∧ (∀ q ∈ ms1, q ∈ ms ∨ ∃ r ∈ rs, r.n = q.1 ∧ r.o = who) ∧ Gr [mp] st s ∧ (r.o ≠ who → nm = m) ∧ (r.o = who → ∃ j, ms1[j]? = some (m, past) ∧ nm = markN who j)) ?_ ?_
    · rw [ss_if, sat_test, sat_var rfl, sat_truth]
      by_cases ho : r.o = who
      · rw [decide_eq_true ho, if_pos rfl]
        refine seq_mid (fun e s => ∃ ms1 : List Mark, e = ([some (.tup (rs.map Row.pv)), some (T.node m cs).pv, some (.int who), some (pairsPv past), some (.loc mp), some (.str m), some (.bl true), none, none, none] : PEnv) ∧ s[mp]? = some (.lst (ms1.map mkPv)) ∧ ms <+: ms1 ∧ ms1.length ≤ ms.length + 1 ∧ (m, past) ∈ ms1 ∧ (∀ q ∈ ms1, q ∈ ms ∨ q = (m, past)) ∧ Gr [mp] st s) ?_ ?_
        · rw [ss_if, sat_test, sat_bin, sat_args, sat_cons, sat_var rfl, sat_cons, sat_var rfl, sat_nil, sat_tup]
          refine ⟨sl2, ?_⟩
          rw [sat_var rfl]
          show Sat (pNotIn (mkPv (m, past)) (.loc mp) st) _
          rw [notIn_marks hm, sat_truth]
          by_cases hin : (m, past) ∈ ms
          · rw [decide_eq_true hin, Bool.not_true, if_neg (by simp), ss_nil]
            exact ⟨ms, rfl, hm, ⟨[], by simp⟩, by omega, hin, fun q hq => .inl hq, .refl⟩
          · rw [decide_eq_false hin, Bool.not_false, if_pos rfl, ss_expr, sat_meth, sat_var rfl]
            refine ⟨o_isL hm, ?_⟩
            rw [sat_cons, sat_args, sat_cons, sat_var rfl, sat_cons, sat_var rfl, sat_nil, sat_tup]
            refine ⟨sl2, ?_⟩
            rw [sat_nil]
            show Sat (pAppend (.loc mp) [mkPv (m, past)] st) _
            rw [o_app hm]
            refine ⟨by rw [sizeLine_eq, List.length_map]; omega, ms ++ [(m, past)], rfl, ?_, ⟨_, rfl⟩, by simp, by simp, fun q hq => ?_, .set (by simp)⟩
            · rw [List.getElem?_set_self hmpl]; simp
            · rcases List.mem_append.mp hq with z | z
              · exact .inl z
              · exact .inr (List.mem_singleton.mp z)
        · rintro e s ⟨ms1, rfl, a1, a2, a3, a4, a5, a6⟩
          rw [ss_set, sat_call, sat_cons, sat_var rfl, sat_cons, sat_meth, sat_var rfl]
          have ixm := fun Q k => index_marks (q := (m, past)) (Q := Q) a1 a4 (by omega) k
          refine ⟨(ixm (fun _ _ => True) fun _ _ => trivial).1, ?_⟩
          rw [sat_cons, sat_args, sat_cons, sat_var rfl, sat_cons, sat_var rfl, sat_nil, sat_tup]
          refine ⟨sl2, ?_⟩
          rw [sat_nil]
          refine (ixm _ fun j hj => ?_).2
          have hjl : j < ms1.length := (List.getElem?_eq_some_iff.mp hj).1
          rw [sat_nil]
          refine ⟨rfl, ?_⟩
          rw [mark_name_eq hw (by omega), sat_ok]
          refine ⟨markN who j, ms1, rfl, a1, a2, a3, fun q hq => ?_, a6, fun z => absurd ho z, fun _ => ⟨j, hj, rfl⟩⟩
          rcases a5 q hq with z | z
          · exact .inl z
          · exact .inr ⟨r, mr, by rw [z]; exact er, ho⟩
      · rw [decide_eq_false ho, if_neg (by simp), ss_nil]
        exact ⟨m, ms, rfl, hm, ⟨[], by simp⟩, by omega, fun q hq => .inl hq, .refl, fun _ => rfl, fun z => absurd z ho⟩
    rintro e s ⟨nm, ms1, rfl, a1, a2, a3, a4, a5, a6, a7⟩
    have hmp1 := lt_of_some a1
    rw [ss_seq, ss_set, sat_args, sat_nil, sat_loc]
    refine ⟨sl0, ?_⟩
    have c0 : (s ++ [PO.lst []])[s.length]? = some (.lst []) := by simp
    have b1 : (s ++ [PO.lst []])[mp]? = some (.lst (ms1.map mkPv)) := (Gr.app (L := [])).at' a1 (by simp)
    have g1 : Gr [] s (s ++ [PO.lst []]) := .app
    generalize s ++ [PO.lst []] = s1 at *
    generalize hch : s.length = ch at *
    -- the children
    refine seq_mid (fun e s' => ∃ (ds : List T) (ms2 : List Mark), (∃ a b, e = ([some (.tup (rs.map Row.pv)), some (T.node m cs).pv, some (.int who), some (pairsPv past), some (.loc mp), some (.str nm), some (.bl (decide (r.o = who))), some (.loc ch), a, b] : PEnv)) ∧ s'[ch]? = some (.lst (T.pvs ds)) ∧ s'[mp]? = some (.lst (ms2.map mkPv)) ∧ ms1 <+: ms2 ∧ ds.length = cs.length ∧ ms2.length ≤ ms1.length + (nodesRs m 0 cs).length ∧ (∀ q ∈ ms2, q ∈ ms1 ∨ ∃ r ∈ rs, r.n = q.1 ∧ r.o = who) ∧ Gr [mp, ch] s1 s' ∧
        ∀ (i : Nat) (c d : T), cs[i]? = some c → ds[i]? = some d → MkR rs who ms2 (if r.o = who then past ++ [(nm, i)] else past) c d) ?_ ?_
    · rw [ss_for, sat_iRange1, sat_args, sat_cons, sat_bin, sat_var rfl, sat_c, ix1, sat_nil, sat_one, o_lenT, o_rng, T.pvs_len]
      refine ⟨by omega, ?_⟩
      refine for_invN (k := 0) (fun i e s' => ∃ (ds : List T) (ms2 : List Mark), (∃ a b, e = ([some (.tup (rs.map Row.pv)), some (T.node m cs).pv, some (.int who), some (pairsPv past), some (.loc mp), some (.str nm), some (.bl (decide (r.o = who))), some (.loc ch), a, b] : PEnv)) ∧ s'[ch]? = some (.lst (T.pvs ds)) ∧ s'[mp]? = some (.lst (ms2.map mkPv)) ∧ ms1 <+: ms2 ∧ ds.length = i ∧ ms2.length ≤ ms1.length + (nodesRs m 0 (cs.take i)).length ∧ (∀ q ∈ ms2, q ∈ ms1 ∨ ∃ r ∈ rs, r.n = q.1 ∧ r.o = who) ∧ Gr [mp, ch] s1 s' ∧
        ∀ (i : Nat) (c d : T), cs[i]? = some c → ds[i]? = some d → MkR rs who ms2 (if r.o = who then past ++ [(nm, i)] else past) c d) ⟨[], ms1, ⟨_, _, rfl⟩, by simpa [T.pvs] using c0, b1, ⟨[], by simp⟩, rfl, by omega, fun q hq => .inl hq, .refl, fun i c d _ hd => by simp at hd⟩ ?_ ?_
      · rintro i v e s' hv ⟨ds, ms2, ⟨a, b, rfl⟩, e1, e2, e3, e4, e5, e6, e7, e8⟩
        obtain ⟨hi, rfl⟩ := rngs_get hv
        have hi : i < cs.length := by omega
        have hx := List.getElem?_eq_getElem hi
        rw [Nat.zero_add] at e4 e5 ⊢
        rw [Int.zero_add]
        refine ⟨_, rfl, ?_⟩
        have lim : (nodesRs m 0 (cs.take (i + 1))).length ≤ (nodesRs m 0 cs).length := by
          have key : ∀ (as bs : List T) (j : Nat), (nodesRs m j as).length ≤ (nodesRs m j (as ++ bs)).length := by
            intro as
            induction as with
            | nil => intro bs j; simp [nodesRs]
            | cons x as ih =>
              intro bs j
              rw [List.cons_append, nodesRs, nodesRs, List.length_append, List.length_append]
              have := ih bs (j + 1)
              omega
          have := key (cs.take (i + 1)) (cs.drop (i + 1)) 0
          rwa [List.take_append_drop] at this
        have step := nodesRs_take (n := m) hx
        have stepl := congrArg List.length step
        rw [List.length_append, List.length_map] at stepl
        refine seq_mid (fun e t => e = ([some (.tup (rs.map Row.pv)), some (T.node m cs).pv, some (.int who), some (pairsPv past), some (.loc mp), some (.str nm), some (.bl (decide (r.o = who))), some (.loc ch), some (nat i), some (pairsPv past)] : PEnv) ∧ t = s') ?_ ?_
        · rw [ss_set, sat_var rfl]
          exact ⟨rfl, rfl⟩
        rintro e t ⟨rfl, rfl⟩
        refine seq_mid (fun e t' => e = ([some (.tup (rs.map Row.pv)), some (T.node m cs).pv, some (.int who), some (pairsPv past), some (.loc mp), some (.str nm), some (.bl (decide (r.o = who))), some (.loc ch), some (nat i), some (pairsPv (if r.o = who then past ++ [(nm, i)] else past))] : PEnv) ∧ t' = t) ?_ ?_
        · rw [ss_if, sat_test, sat_var rfl, sat_truth]
          by_cases ho : r.o = who
          · rw [decide_eq_true ho, if_pos rfl, if_pos ho, ss_set, sat_bin, sat_var rfl, sat_args, sat_cons, sat_args, sat_cons, sat_var rfl, sat_cons, sat_var rfl, sat_nil, sat_tup]
            refine ⟨sl2, ?_⟩
            rw [sat_nil, sat_tup]
            refine ⟨sl1, ?_⟩
            rw [pairs_snoc (by omega)]
            exact ⟨rfl, rfl⟩
          · rw [decide_eq_false ho, if_neg (by simp), if_neg ho, ss_nil]
            exact ⟨rfl, rfl⟩
        rintro e t' ⟨rfl, rfl⟩
        generalize hdn : (if r.o = who then past ++ [(nm, i)] else past) = dn
        have hdnl : dn.length + d ≤ 100 := by
          subst hdn
          split
          · simp; omega
          · omega
        rw [ss_expr, sat_meth, sat_var rfl]
        refine ⟨o_isL e1, ?_⟩
        rw [sat_cons, sat_call, sat_cons, sat_var rfl, sat_cons, sat_bin, sat_bin, sat_var rfl, sat_c, ix1, sat_var rfl]
        refine walk_ix hx ?_
        rw [sat_cons, sat_var rfl, sat_cons, sat_var rfl, sat_cons, sat_var rfl, sat_nil]
        refine ⟨rfl, ?_⟩
        show Sat (fuelF 10 f_law_marked_for n [.tup (rs.map Row.pv), cs[i].pv, .int who, pairsPv dn, .loc mp] t') _
        refine marked_ok hw nd n d cs[i] dn ms2 t' _ (h3 _ (List.getElem_mem hi)) (by omega) (by omega) (fun q mq => ?_) (by omega) e2 (by omega) fun c' ms3 s3 f1 f2 f3 f4 f5 f6 => ?_
        · have := mem_nodesRs_of (n := m) (i := 0) (j := i) hx mq
          have := hdec _ (show _ ∈ nodesR (.node m cs) by rw [nodesR]; exact List.mem_cons_of_mem _ this)
          exact this
        have hmpch : mp ≠ ch := by omega
        have e1' := f6.at' e1 (by simp; omega)
        rw [sat_nil, o_app e1']
        have gs : Gr [ch] s3 (s3.set ch (.lst (T.pvs ds ++ [c'.pv]))) := .set (by simp)
        refine ⟨by rw [sizeLine_eq, T.pvs_len]; omega, ds ++ [c'], ms3, ⟨_, _, rfl⟩, ?_, gs.at' f5 (by simp; exact hmpch), e3.trans f2, by simp; omega, by omega, fun q hq => ?_, e7.trans ((f6.mono (by simp)).trans (gs.mono (by simp))), fun i2 c d hc hd2 => ?_⟩
        · rw [List.getElem?_set_self (lt_of_some e1'), T.pvs_map, T.pvs_map, List.map_append]; rfl
        · rcases f4 q hq with z | z
          · exact e6 q z
          · exact .inr z
        · rcases Nat.lt_or_ge i2 ds.length with z | z
          · rw [List.getElem?_append_left z] at hd2
            exact (e8 i2 c d hc hd2).mono f2
          · rw [List.getElem?_append_right z] at hd2
            have : i2 - ds.length = 0 := by
              rcases Nat.eq_zero_or_pos (i2 - ds.length) with y | y
              · exact y
              · rw [List.getElem?_eq_none (by simp only [List.length_singleton]; omega)] at hd2; cases hd2
            rw [this] at hd2
            simp only [List.getElem?_cons_zero, Option.some.injEq] at hd2
            subst hd2
            have : i2 = i := by omega
            subst this
            rw [hx] at hc
            cases hc
            rw [hdn]
            exact f1
      · rintro e s' ⟨ds, ms2, ⟨a, b, rfl⟩, e1, e2, e3, e4, e5, e6, e7, e8⟩
        rw [rngs_len, Int.toNat_natCast, Nat.zero_add] at e4 e5
        rw [List.take_length] at e5
        exact ⟨ds, ms2, ⟨a, b, rfl⟩, e1, e2, e3, e4, e5, e6, e7, e8⟩
    rintro e s' ⟨ds, ms2, ⟨a, b, rfl⟩, e1, e2, e3, e4, e5, e6, e7, e8⟩
    rw [ss_ret, sat_args, sat_cons, sat_var rfl, sat_cons, sat_args, sat_cons, sat_var rfl, sat_nil, sat_one, o_tupP e1, sat_nil, sat_tup]
    refine ⟨sl2, ?_⟩
    have rel : MkR rs who ms2 past (.node m cs) (.node nm ds) := by
      rw [← er]
      by_cases ho : r.o = who
      · obtain ⟨j, hj, rfl⟩ := a7 ho
        refine .mine mr ho ?_ e4 fun i c d hc hd2 => ?_
        · obtain ⟨x, rfl⟩ := e3
          rw [List.getElem?_append_left (List.getElem?_eq_some_iff.mp hj).1, er]
          exact hj
        · have := e8 i c d hc hd2
          rw [if_pos ho] at this
          exact this
      · have := a6 ho
        subst this
        rw [← er]
        refine .other mr ho e4 fun i c d hc hd2 => ?_
        have := e8 i c d hc hd2
        rw [if_neg ho] at this
        exact this
    have := k (.node nm ds) ms2 s' rel (a2.trans e3) (by omega) (fun q hq => ?_) e2 ?_
    · rw [node_pv] at this; exact this
    · rcases e6 q hq with z | z
      · exact a4 q z
      · exact .inr z
    · refine a5.trans ?_
      refine Gr.cut (L := [mp, ch]) (L' := [mp]) ((g1.mono (by simp)).trans e7) ?_
      intro j hj hlt'
      simp only [List.mem_cons, List.not_mem_nil, or_false] at hj ⊢
      omega
end PL
/-! PL, part QN: games told apart, small games. -/
namespace PL
open PySem PySem.Spec PyProof.Rows L2
/-- names as they are drawn, or marks of their owner -/
def NmOk (rs : List Row) : Prop := ∀ r ∈ rs, r.n.length ≤ 6 ∨ ∃ k, k < 1000 ∧ r.n = markN r.o k ∧ (r.o = 1 ∨ r.o = 2)
theorem stem_inj {w v : Int} (hw : w = 1 ∨ w = 2) (hv : v = 1 ∨ v = 2) (h : stemN w = stemN v) : w = v := by
  rcases hw with rfl | rfl <;> rcases hv with rfl | rfl
  · rfl
  · exact absurd h stem_ne
  · exact absurd h.symm stem_ne
  · rfl
theorem nm_not_mark {rs : List Row} (h : NmOk rs) {r : Row} (m : r ∈ rs) {who : Int} (hw : who = 1 ∨ who = 2) (ho : r.o ≠ who) {j : Nat} (hj : j < 1000) : r.n ≠ markN who j := by
  intro e
  rcases h r m with z | ⟨k, hk, ek, hr⟩
  · have := mark_len (w := who) hj
    rw [← e] at this
    omega
  · rw [ek] at e
    exact ho (stem_inj hr hw (mark_stem e))
def NR (rs : List Row) (who : Int) (ms : List Mark) (a b : Str) : Prop := (∃ r ∈ rs, r.o ≠ who ∧ r.n = a ∧ b = a) ∨ ∃ j p, ms[j]? = some (a, p) ∧ b = markN who j ∧ ∃ r ∈ rs, r.n = a ∧ r.o = who
theorem NR.inj {rs : List Row} {who : Int} {ms : List Mark} (hn : NmOk rs) (hw : who = 1 ∨ who = 2) (hl : ms.length ≤ 900) {a a' b : Str} (h : NR rs who ms a b) (h' : NR rs who ms a' b) : a = a' := by
  have lt : ∀ {j : Nat} {q : Mark}, ms[j]? = some q → j < 1000 := fun e => by have := (List.getElem?_eq_some_iff.mp e).1; omega
  rcases h with ⟨r, m, o, e, e2⟩ | ⟨j, p, e, e2, _⟩ <;> rcases h' with ⟨r', m', o', e', e2'⟩ | ⟨j', p', e', e2', _⟩
  · rw [← e2, ← e2']
  · exact absurd (by rw [e, ← e2, e2']) (nm_not_mark hn m hw o (lt e'))
  · exact absurd (by rw [e', ← e2', e2]) (nm_not_mark hn m' hw o' (lt e))
  · have := mark_inj (lt e) (lt e') (by rw [← e2, ← e2'])
    subst this
    rw [e] at e'
    cases e'
    rfl
theorem MkR.ways {rs : List Row} {who : Int} {ms : List Mark} {past : List (Str × Nat)} {t t' : T} (h : MkR rs who ms past t t') : ∀ q' ∈ nodesR t', ∃ q ∈ nodesR t, NR rs who ms q.2.1.nm q'.2.1.nm ∧ ∀ x ∈ onWay q', ∃ y ∈ onWay q, NR rs who ms y x := by
  induction h with
  | leaf => intro q' m; simp [nodesR] at m
  | @other past r cs ds hr ho hl hk ih =>
    intro q' m
    rw [nodesR, List.mem_cons] at m
    have nr : NR rs who ms r.n r.n := .inl ⟨r, hr, ho, rfl, rfl⟩
    rcases m with rfl | m
    · exact ⟨([], .node r.n cs, []), by rw [nodesR]; exact List.mem_cons_self, nr, by simp [onWay]⟩
    · obtain ⟨j, d, q2, h1, h2, rfl⟩ := mem_nodesRs m
      have hj : j < cs.length := by have := (List.getElem?_eq_some_iff.mp h1).1; omega
      have hc := List.getElem?_eq_getElem hj
      obtain ⟨q, mq, n1, n2⟩ := ih j _ d hc h1 q2 h2
      refine ⟨((0 + j) :: q.1, q.2.1, (r.n, 0 + j) :: q.2.2), by rw [nodesR]; exact List.mem_cons_of_mem _ (mem_nodesRs_of (n := r.n) (i := 0) (j := j) hc mq), n1, fun x mx => ?_⟩
      rcases List.mem_cons.mp mx with rfl | mx
      · exact ⟨r.n, List.mem_cons_self, nr⟩
      · obtain ⟨y, my, ny⟩ := n2 x mx
        exact ⟨y, List.mem_cons_of_mem _ my, ny⟩
  | @mine past r cs ds k hr ho hm hl hk ih =>
    intro q' m
    rw [nodesR, List.mem_cons] at m
    have nr : NR rs who ms r.n (markN who k) := .inr ⟨k, past, hm, rfl, r, hr, rfl, ho⟩
    rcases m with rfl | m
    · exact ⟨([], .node r.n cs, []), by rw [nodesR]; exact List.mem_cons_self, nr, by simp [onWay]⟩
    · obtain ⟨j, d, q2, h1, h2, rfl⟩ := mem_nodesRs m
      have hj : j < cs.length := by have := (List.getElem?_eq_some_iff.mp h1).1; omega
      have hc := List.getElem?_eq_getElem hj
      obtain ⟨q, mq, n1, n2⟩ := ih j _ d hc h1 q2 h2
      refine ⟨((0 + j) :: q.1, q.2.1, (r.n, 0 + j) :: q.2.2), by rw [nodesR]; exact List.mem_cons_of_mem _ (mem_nodesRs_of (n := r.n) (i := 0) (j := j) hc mq), n1, fun x mx => ?_⟩
      rcases List.mem_cons.mp mx with rfl | mx
      · exact ⟨r.n, List.mem_cons_self, nr⟩
      · obtain ⟨y, my, ny⟩ := n2 x mx
        exact ⟨y, List.mem_cons_of_mem _ my, ny⟩
theorem MkR.fit {rs : List Row} {who : Int} {ms : List Mark} {past : List (Str × Nat)} {t t' : T} (h : MkR rs who ms past t t') (hok : ∀ r ∈ rs, r.Ok) (hl : ms.length ≤ 900) : ∀ {c d : Nat}, T.Fit c d t → T.Fit c d t' := by
  induction h with
  | leaf => intro c d hf; exact hf
  | @other past r cs ds hr ho hlen hk ih =>
    intro c d hf
    cases hf with
    | node h1 h2 h3 =>
      refine .node h1 (by omega) fun x m => ?_
      obtain ⟨j, hj, e⟩ := List.getElem_of_mem m
      have hc : j < cs.length := by omega
      exact ih j cs[j] x (List.getElem?_eq_getElem hc) (by rw [List.getElem?_eq_getElem hj, e]) (h3 _ (List.getElem_mem hc))
  | @mine past r cs ds k hr ho hm hlen hk ih =>
    intro c d hf
    have hkl := (List.getElem?_eq_some_iff.mp hm).1
    cases hf with
    | node h1 h2 h3 =>
      refine .node (by have := mark_len (w := who) (k := k) (by omega); omega) (by omega) fun x m => ?_
      obtain ⟨j, hj, e⟩ := List.getElem_of_mem m
      have hc : j < cs.length := by omega
      exact ih j cs[j] x (List.getElem?_eq_getElem hc) (by rw [List.getElem?_eq_getElem hj, e]) (h3 _ (List.getElem_mem hc))
def wsAt (rs : List Row) (ms : List Mark) (k : Nat) : List Int := match ms[k]? with
  | some q => match rs.find? (rowP q.1) with
    | some r => r.ws
    | none => []
  | none => []
def markRow (rs : List Row) (who : Int) (ms : List Mark) (k : Nat) : Row := ⟨markN who k, who, wsAt rs ms k⟩
def apartRows (rs : List Row) (who : Int) (ms : List Mark) : List Row := (rs.filter fun r => !decide (r.o = who)) ++ (List.range ms.length).map (markRow rs who ms)
theorem apart_good {rs : List Row} {who : Int} {ms : List Mark} {t t' : T} {N : Nat} (g : Good rs t) (hn : NmOk rs) (hw : who = 1 ∨ who = 2) (hl : ms.length ≤ 300) (hrl : rs.length ≤ 600) (hms : ∀ q ∈ ms, ∃ r ∈ rs, r.n = q.1 ∧ r.o = who) (h : MkR rs who ms [] t t') (hnode : ∃ n cs, t = .node n cs) :
    Good ((apartRows rs who ms).mergeSort rowLe) t' ∧ NmOk ((apartRows rs who ms).mergeSort rowLe) ∧ (∃ n cs, t' = .node n cs) ∧ ((apartRows rs who ms).mergeSort rowLe).length ≤ rs.length + ms.length ∧ ∀ r ∈ apartRows rs who ms, r.Ok := by
  have pm := sort_perm (apartRows rs who ms)
  have ok1 : ∀ r ∈ apartRows rs who ms, r.Ok := fun r m => by
    rcases List.mem_append.mp m with m | m
    · exact g.ok r (List.mem_filter.mp m).1
    · obtain ⟨k, mk, rfl⟩ := List.mem_map.mp m
      have hk := List.mem_range.mp mk
      obtain ⟨r, mr, en, _⟩ := hms ms[k] (List.getElem_mem hk)
      have ew : wsAt rs ms k = r.ws := by
        unfold wsAt
        rw [List.getElem?_eq_getElem hk]
        simp only
        rw [← en, find_mem g.nd mr]
      have o := g.ok r mr
      refine ⟨by have := mark_len (w := who) (k := k) (by omega); show (markN who k).length ≤ 40; omega, ?_, ?_, ?_⟩
      · show 1 ≤ (wsAt rs ms k).length; rw [ew]; exact o.w1
      · show (wsAt rs ms k).length ≤ 64; rw [ew]; exact o.w2
      · show ∀ w ∈ wsAt rs ms k, _; rw [ew]; exact o.m
  have nm1 : NmOk (apartRows rs who ms) := fun r m => by
    rcases List.mem_append.mp m with m | m
    · exact hn r (List.mem_filter.mp m).1
    · obtain ⟨k, mk, rfl⟩ := List.mem_map.mp m
      have hk := List.mem_range.mp mk
      exact .inr ⟨k, by omega, rfl, hw⟩
  have nd1 : ((apartRows rs who ms).map (·.n)).Nodup := by
    unfold apartRows
    rw [List.map_append, List.nodup_append]
    refine ⟨(g.nd).sublist ((List.filter_sublist).map _), ?_, ?_⟩
    · rw [List.map_map, List.nodup_iff_pairwise_ne, List.pairwise_map]
      refine List.Pairwise.imp_of_mem ?_ (List.nodup_iff_pairwise_ne.mp (List.nodup_range (n := ms.length)))
      intro i j mi mj hij e
      have := List.mem_range.mp mi
      have := List.mem_range.mp mj
      exact hij (mark_inj (by omega) (by omega) e)
    · intro a ha b hb e
      subst e
      obtain ⟨r, mr, rfl⟩ := List.mem_map.mp ha
      obtain ⟨x, mx, e⟩ := List.mem_map.mp hb
      obtain ⟨k, mk, rfl⟩ := List.mem_map.mp mx
      have hk := List.mem_range.mp mk
      have hm := List.mem_filter.mp mr
      exact nm_not_mark hn hm.1 hw (by simpa using hm.2) (show k < 1000 by omega) e.symm
  have hnode' : ∃ n cs, t' = .node n cs := by
    obtain ⟨n, cs, rfl⟩ := hnode
    cases h with
    | other _ _ _ _ => exact ⟨_, _, rfl⟩
    | mine _ _ _ _ _ => exact ⟨_, _, rfl⟩
  have dec1 : ∀ q' ∈ nodesR t', ∃ r ∈ (apartRows rs who ms).mergeSort rowLe, r.n = q'.2.1.nm := fun q' m => by
    obtain ⟨q, mq, n1, _⟩ := h.ways q' m
    rcases n1 with ⟨r, mr, o, e1, e2⟩ | ⟨j, p, e1, e2, _⟩
    · exact ⟨r, pm.mem_iff.mpr (List.mem_append_left _ (List.mem_filter.mpr ⟨mr, by simpa using o⟩)), by rw [e2]; exact e1⟩
    · have hj := (List.getElem?_eq_some_iff.mp e1).1
      exact ⟨markRow rs who ms j, pm.mem_iff.mpr (List.mem_append_right _ (List.mem_map.mpr ⟨j, List.mem_range.mpr hj, rfl⟩)), e2.symm⟩
  have len1 : ((apartRows rs who ms).mergeSort rowLe).length ≤ rs.length + ms.length := by
    rw [pm.length_eq]
    unfold apartRows
    rw [List.length_append, List.length_map, List.length_range]
    have := List.length_filter_le (fun r : Row => !decide (r.o = who)) rs
    omega
  refine ⟨⟨fun r m => ok1 r (pm.mem_iff.mp m), ((pm.map (·.n)).nodup_iff).mpr nd1, sort_pair _, ?_, by omega, h.fit g.ok (by omega) g.fit, dec1, ?_⟩, fun r m => nm1 r (pm.mem_iff.mp m), hnode', len1, ok1⟩
  · obtain ⟨n, cs, rfl⟩ := hnode'
    obtain ⟨r, mr, _⟩ := dec1 ([], .node n cs, []) (by rw [nodesR]; exact List.mem_cons_self)
    exact List.ne_nil_of_mem mr
  · intro q' m hin
    obtain ⟨q, mq, n1, n2⟩ := h.ways q' m
    obtain ⟨y, my, ny⟩ := n2 _ hin
    have := NR.inj hn hw (by omega) n1 ny
    exact g.un q mq (by rw [this]; exact my)
theorem told_apart_ok {rs : List Row} {t : T} {who : Int} {st : Store} {Q : PV → Store → Prop} (g : Good rs t) (hn : NmOk rs) (hw : who = 1 ∨ who = 2) (hrl : rs.length ≤ 600) (hnode : ∃ n cs, t = .node n cs)
    (k : ∀ rs' t' s, Good rs' t' → NmOk rs' → (∃ n cs, t' = .node n cs) → rs'.length ≤ rs.length + 256 → Gr [] st s → Q (gamePv rs' t') s) : Sat (m_law_told_apart [gamePv rs t, .int who] st) Q := by
  refine sat_body ?_
  unfold f_law_told_apart
  generalize hg : gamePv rs t = g0
  have gix0 : ∀ (s : Store) (Q : PV → Store → Prop), Sat (pIx g0 (.int 0) s) Q = Q (.tup (rs.map Row.pv)) s := fun s Q => by rw [← hg]; unfold gamePv; rw [o_ixT, ixW_0]
  have gix1 : ∀ (s : Store) (Q : PV → Store → Prop), Sat (pIx g0 (.int 1) s) Q = Q t.pv s := fun s Q => by rw [← hg]; unfold gamePv; rw [o_ixT, ixW_1]
  simp only [List.map_cons, List.map_nil, List.length_cons, List.length_nil, Nat.reduceAdd, Nat.reduceSub, List.reduceReplicate, List.cons_append, List.nil_append]
  rw [ss_seq, ss_set, sat_args, sat_nil, sat_loc]
  refine ⟨sl0, ?_⟩
  have m0 : (st ++ [PO.lst []])[st.length]? = some (.lst (([] : List Mark).map mkPv)) := by simp
  have g1 : Gr [] st (st ++ [PO.lst []]) := .app
  generalize st ++ [PO.lst []] = s0 at *
  generalize hmp : st.length = mp at *
  have nl := nodes_len g.fit
  rw [ss_seq, ss_set, sat_call, sat_cons, sat_bin, sat_var rfl, sat_c, gix0, sat_cons, sat_bin, sat_var rfl, sat_c, gix1, sat_cons, sat_var rfl, sat_cons, sat_args, sat_nil, sat_tup]
  refine ⟨sl0, ?_⟩
  rw [sat_cons, sat_var rfl, sat_nil]
  refine ⟨rfl, ?_⟩
  show Sat (fuelF 10 f_law_marked_for 60 [.tup (rs.map Row.pv), t.pv, .int who, pairsPv [], .loc mp] s0) _
  refine marked_ok hw g.nd 60 4 t [] [] s0 _ g.fit (by decide) (by decide) g.dec (by decide) m0 (by simp; omega) fun t' ms s1 hr _ hml hms hm1 g2 => ?_
  have hms' : ∀ q ∈ ms, ∃ r ∈ rs, r.n = q.1 ∧ r.o = who := fun q m => by
    rcases hms q m with z | z
    · cases z
    · exact z
  have hml : ms.length ≤ 256 := by simp at hml; omega
  obtain ⟨gd, nmo, nod, len2, ok2⟩ := apart_good (N := 0) g hn hw (by omega) hrl hms' hr hnode
  have hmpl := lt_of_some hm1
  have hgl := g.len
  refine seq_mid (fun e s => ∃ rp, e = ([some g0, some (.int who), some (.loc mp), some t'.pv, some (.loc rp), none, none] : PEnv) ∧ s1.length = rp ∧ s[rp]? = some (.lst ((rs.filter fun r => !decide (r.o = who)).map Row.pv)) ∧ s[mp]? = some (.lst (ms.map mkPv)) ∧ Gr [] s1 s) ?_ ?_
  · rw [ss_set, sat_comp, sat_iVal, sat_bin, sat_var rfl, sat_c, gix0, o_itT]
    refine comp_filt (as := rs) (f := Row.pv) (g := Row.pv) (p := fun r => !decide (r.o = who)) (by simp [wipeP]) (by omega) (fun x hx => t_ok fun Q k => by
      rw [sat_bin, sat_bin, sat_var (v := x.pv) (by simp [wipeP]), sat_c, row_ix1, sat_var (v := .int who) (by simp [wipeP]), o_neI]; exact k) (fun x hx _ => det fun Q k => by
      rw [sat_var (v := x.pv) (by simp [wipeP])]; exact k) ?_ _ trivial
    rw [o_finT]
    exact ⟨_, rfl, rfl, by simp, (Gr.app (L := [])).at' hm1 (by simp), .app⟩
  rintro e s2 ⟨rp, rfl, hrp, hr2, hm2, g3⟩
  refine seq_mid (fun e s => (∃ a, e = ([some g0, some (.int who), some (.loc mp), some t'.pv, some (.loc rp), a, none] : PEnv)) ∧ s[rp]? = some (.lst ((apartRows rs who ms).map Row.pv)) ∧ Gr [rp] s2 s) ?_ ?_
  · rw [ss_for, sat_iRange1, sat_args, sat_cons, sat_var rfl, sat_nil, sat_one, o_lenP hm2, o_rng, List.length_map]
    refine ⟨by omega, ?_⟩
    refine for_invN (k := 0) (fun i e s => (∃ a, e = ([some g0, some (.int who), some (.loc mp), some t'.pv, some (.loc rp), a, none] : PEnv)) ∧ s[rp]? = some (.lst (((rs.filter fun r => !decide (r.o = who)) ++ (List.range i).map (markRow rs who ms)).map Row.pv)) ∧ s[mp]? = some (.lst (ms.map mkPv)) ∧ Gr [rp] s2 s) ⟨⟨_, rfl⟩, by simpa using hr2, hm2, .refl⟩ ?_ ?_
    · rintro i v e s hv ⟨⟨a, rfl⟩, h1, h2, h3⟩
      obtain ⟨hi, rfl⟩ := rngs_get hv
      have hi : i < ms.length := by omega
      rw [Nat.zero_add] at h1 ⊢
      rw [Int.zero_add]
      refine ⟨_, rfl, ?_⟩
      obtain ⟨r, mr, en, eo⟩ := hms' ms[i] (List.getElem_mem hi)
      have ew : wsAt rs ms i = r.ws := by
        unfold wsAt
        rw [List.getElem?_eq_getElem hi]
        simp only
        rw [← en, find_mem g.nd mr]
      rw [ss_expr, sat_meth, sat_var rfl]
      refine ⟨o_isL h1, ?_⟩
      rw [sat_cons, sat_args, sat_cons, sat_call, sat_cons, sat_var rfl, sat_cons, sat_var rfl, sat_nil]
      refine ⟨rfl, ?_⟩
      rw [mark_name_eq hw (by omega), sat_ok, sat_cons, sat_var rfl, sat_cons, sat_bin, sat_call, sat_cons, sat_bin, sat_var rfl, sat_c, gix0, sat_cons, sat_bin, sat_bin, sat_var rfl, sat_var rfl, o_ixP h2]
      refine ixW_of (y := mkPv ms[i]) (by rw [List.getElem?_map, List.getElem?_eq_getElem hi]; rfl) ?_
      rw [sat_c]
      unfold mkPv
      rw [o_ixT, ixW_0, sat_nil]
      refine ⟨rfl, ?_⟩
      rw [law_row_eq, sat_ok, ← en, find_mem g.nd mr, sat_c]
      show Sat (pIx r.pv (.int 2) s) _
      rw [row_ix2, sat_nil, sat_tup]
      refine ⟨sl3, ?_⟩
      rw [sat_nil, o_app h1]
      have fl := List.length_filter_le (fun r : Row => !decide (r.o = who)) rs
      refine ⟨by rw [sizeLine_eq, List.length_map, List.length_append, List.length_map, List.length_range]; omega, ⟨_, rfl⟩, ?_, ?_, h3.trans (.set (by simp))⟩
      · rw [List.getElem?_set_self (lt_of_some h1), List.range_succ]
        simp [markRow, Row.pv, ew]
      · rw [List.getElem?_set_ne (by omega)]; exact h2
    · rintro e s ⟨⟨a, rfl⟩, h1, h2, h3⟩
      rw [rngs_len, Nat.zero_add, Int.toNat_natCast] at h1
      exact ⟨⟨_, rfl⟩, h1, h3⟩
  rintro e s3 ⟨⟨a, rfl⟩, h1, h3⟩
  rw [ss_ret, sat_args, sat_cons, sat_args, sat_cons, sat_args, sat_cons, sat_var rfl, sat_nil, sat_one]
  have fl : (apartRows rs who ms).length ≤ rs.length + ms.length := by
    have := (sort_perm (apartRows rs who ms)).length_eq
    omega
  refine sorted_ok (b := false) (xs := (apartRows rs who ms).map Row.pv) (by unfold seqOf; simp only [h1]) (by rw [List.length_map]; omega) (fun v m => ?_) ?_
  · obtain ⟨r, mr, rfl⟩ := List.mem_map.mp m
    exact (ok2 r mr).g
  rw [sort_rows, sat_nil, sat_one, o_tupL, sat_cons, sat_var rfl, sat_nil, sat_tup]
  refine ⟨sl2, k _ t' s3 gd nmo nod (by omega) ?_⟩
  refine Gr.cut (L := [mp, rp]) (L' := []) ((g1.mono (by simp)).trans ((g2.mono (by simp)).trans ((g3.mono (by simp)).trans (h3.mono (by simp))))) ?_
  intro j hj hlt'
  simp only [List.mem_cons, List.not_mem_nil, or_false] at hj ⊢
  have := g1.len
  have := g2.len
  omega
end PL
/-! PL, part QO: small games. -/
namespace PL
open PySem PySem.Spec PyProof.Rows L2
theorem breadth_ok {rs : List Row} {st : Store} {Q : PV → Store → Prop} (hok : ∀ r ∈ rs, r.Ok) (hl : rs.length ≤ 10000) (k : ∀ i, Q (.int i) st) : Sat (m_law_breadth [.tup (rs.map Row.pv)] st) Q := by
  refine sat_body ?_
  unfold f_law_breadth
  simp only [List.map_cons, List.map_nil, List.length_cons, List.length_nil, Nat.reduceAdd, Nat.reduceSub, List.reduceReplicate, List.cons_append, List.nil_append]
  rw [ss_seq, ss_set, sat_c]
  refine seq_mid (fun e s => (∃ (i : Int) (a : Option PV), e = ([some (.tup (rs.map Row.pv)), some (.int i), a] : PEnv)) ∧ s = st) ?_ ?_
  · rw [ss_for, sat_iVal, sat_var rfl, o_itT]
    refine for_invN (k := 0) (fun _ e s => (∃ (i : Int) (a : Option PV), e = ([some (.tup (rs.map Row.pv)), some (.int i), a] : PEnv)) ∧ s = st) ⟨⟨1, none, rfl⟩, rfl⟩ ?_ (fun e s h => h)
    rintro j v e s hv ⟨⟨i, a, rfl⟩, rfl⟩
    obtain ⟨r, mr, rfl⟩ : ∃ r ∈ rs, v = r.pv := by
      obtain ⟨r, m, e⟩ := List.mem_map.mp (List.mem_of_getElem? hv)
      exact ⟨r, m, e.symm⟩
    refine ⟨_, rfl, ?_⟩
    have o := hok r mr
    rw [ss_set, sat_bin, sat_var rfl, sat_args, sat_cons, sat_bin, sat_var rfl, sat_c, row_ix2, sat_nil, sat_one, o_lenT, o_mulI, List.length_map]
    exact ⟨.inl (.inr (by have := o.w2; have : ((r.ws.length : Int)).natAbs ≤ 64 := by omega
                          exact Nat.lt_of_le_of_lt this (by decide))), ⟨_, _, rfl⟩, rfl⟩
  rintro e s ⟨⟨i, a, rfl⟩, rfl⟩
  rw [ss_ret, sat_var rfl]
  exact k i
theorem game_ix0 {rs : List Row} {t : T} {s : Store} {Q : PV → Store → Prop} : Sat (pIx (gamePv rs t) (.int 0) s) Q = Q (.tup (rs.map Row.pv)) s := by unfold gamePv; rw [o_ixT, ixW_0]
theorem game_ix1 {rs : List Row} {t : T} {s : Store} {Q : PV → Store → Prop} : Sat (pIx (gamePv rs t) (.int 1) s) Q = Q t.pv s := by unfold gamePv; rw [o_ixT, ixW_1]
theorem good_of {rs : List Row} {t : T} (g : Gen rs) (ne : rs ≠ []) (hl : rs.length ≤ 4) (h : Grow rs t) : Good rs t :=
  ⟨g.ok, g.nd, g.so, ne, by omega, h.fit hl fun r m => ⟨g.w3 r m, by have := g.nm r m; omega⟩, fun q m => (h.way q m).1, fun q m => (h.way q m).2.2⟩
theorem small_ok {ns : List Int} {l : Nat} {st : Store} {Q : PV → Store → Prop} (hs : SrcAt st l)
    (k : ∀ rs t s, Good rs t → (∃ n cs, t = .node n cs) → rs.length ≤ 40 → SrcAt s l → Gr [l] st s → Q (gamePv rs t) s) : Sat (m_law_small [scr ns, .loc l, .int 24] st) Q := by
  refine sat_body ?_
  unfold f_law_small
  simp only [List.map_cons, List.map_nil, List.length_cons, List.length_nil, Nat.reduceAdd, Nat.reduceSub, List.reduceReplicate, List.cons_append, List.nil_append]
  refine seq_mid (fun e s => ∃ ms : List (List Int), e = ([some (scr ns), some (.loc l), some (.int 24), some (.lst (ms.map fun m => .lst (ints' m))), none, none] : PEnv) ∧ s = st ∧ ms.length = 10 ∧ ∀ m ∈ ms, m ≠ [] ∧ m.length ≤ 4 ∧ ∀ o ∈ m, 0 ≤ o ∧ o ≤ 2) ?_ ?_
  · simp only [sat_ok, sat_bind, sat_v, sat_c, sat_bin, sat_un, sat_test, sat_truth, sat_and, sat_or, sat_not, sat_yes, sat_andv, sat_notv, sat_chain, sat_nil, sat_cons, sat_args, sat_call, sat_callX, sat_meth, sat_one, sat_oNone, sat_oSome, sat_sl, sat_tup, sat_lst, sat_loc, ss_nil, ss_seq, ss_set, ss_expr, ss_ret, ss_retN, ss_if, ss_tg, ss_par, ss_sub, ss_for, sat_comp, setTg, setTgs, wipeP, sizeLine_eq, List.map_cons, List.map_nil, List.length_cons, List.length_nil, List.cons_append, List.nil_append, List.set_cons_zero, List.set_cons_succ, List.getElem?_cons_zero, List.getElem?_cons_succ, Nat.reduceAdd, Nat.reduceSub, Nat.reduceLeDiff, List.reduceReplicate, Option.some.injEq, exists_eq_left', true_and, and_true, Nat.zero_add, o_addI, o_addS, o_addT, o_addL, o_subI, o_mulI, o_fdivI, o_modI, o_powI, o_negI, o_eqI, o_neI, o_eqS, o_neS, o_ltI, o_gtI, o_leI, o_geI, o_ltS, o_geS, o_inS, o_notInS, o_isN, o_isNotN, o_isT, o_isNotT, o_isS, o_isNotS, o_int, o_intB, o_abs, o_str, o_lenT, o_lenL, o_lenF, o_lenS, o_ixT, o_ixL, o_ixF, ixW_0, ixW_1, ixW_2, o_isStr, o_tupL, o_tupT, o_listT, o_listL, o_listLocT, o_gcd, o_bits, o_finF, o_finT, sat_iVal, sat_iEnum, sat_iRange1, sat_iRange2, o_itT, o_itL, o_itF, o_itS, o_enT, o_rng]
    exact ⟨[[1, 2], [1, 2, 0], [1, 1, 2], [1, 2, 2], [1, 1, 2, 2], [1, 2, 1, 0], [2, 1, 2, 0], [1, 0], [2, 2, 1], [1, 2, 0, 2]], rfl, rfl, by decide⟩
  rintro e s ⟨ms, rfl, rfl, hml, hm⟩
  rw [ss_seq, ss_set, sat_call, sat_cons, sat_var rfl, sat_cons, sat_var rfl, sat_cons, sat_bin, sat_var rfl, sat_call, sat_cons, sat_var rfl, sat_cons, sat_var rfl, sat_cons, sat_c, sat_nil]
  refine ⟨rfl, draw' hs (by decide) (by decide) fun q1 s1 c0 c1 hs1 g1 => ?_⟩
  rw [o_ixL]
  refine draw_len c0 (by rw [List.length_map]; omega) fun y hy => ?_
  obtain ⟨ow, mo, rfl⟩ := List.mem_map.mp hy
  obtain ⟨w1, w2, w3⟩ := hm ow mo
  rw [sat_cons, sat_var rfl, sat_cons, sat_c, sat_nil]
  refine ⟨rfl, grown_ok hs1 w3 w1 (by omega) (by decide) (by decide) fun rs t s2 gen ne hl gr hn hs2 g2 => ?_⟩
  have g := good_of gen ne (by omega) gr
  show SatS _ _ _
  rw [ss_seq, ss_set, sat_var rfl]
  refine seq_mid (fun e s => ∃ rs' t', e = ([some (scr ns), some (.loc l), some (.int 24), some (.lst (ms.map fun m => .lst (ints' m))), some (gamePv rs t), some (gamePv rs' t')] : PEnv) ∧ Good rs' t' ∧ (∃ n cs, t' = .node n cs) ∧ SrcAt s l ∧ Gr [l] s2 s) ?_ ?_
  · rw [ss_if, sat_test, sat_bin, sat_call, sat_cons, sat_var rfl, sat_cons, sat_var rfl, sat_cons, sat_c, sat_nil]
    refine ⟨rfl, draw' hs2 (by decide) (by decide) fun q2 s3 d0 d1 hs3 g3 => ?_⟩
    rw [sat_c, o_gtI, sat_truth]
    split
    · rw [ss_set, sat_call, sat_cons, sat_call, sat_cons, sat_var rfl, sat_cons, sat_c, sat_nil]
      have nm : NmOk rs := fun r m => .inl (gen.nm r m)
      refine ⟨rfl, told_apart_ok g nm (.inl rfl) (by omega) hn fun rs1 t1 s4 G1 nm1 hn1 l1 g4 => ?_⟩
      rw [sat_cons, sat_c, sat_nil]
      refine ⟨rfl, told_apart_ok G1 nm1 (.inr rfl) (by omega) hn1 fun rs2 t2 s5 G2 nm2 hn2 l2 g5 => ?_⟩
      exact ⟨rs2, t2, rfl, G2, hn2, (hs3.gr g4 (by simp)).gr g5 (by simp), g3.trans ((g4.mono (by simp)).trans (g5.mono (by simp)))⟩
    · rw [ss_nil]
      exact ⟨rs, t, rfl, g, hn, hs3, g3⟩
  rintro e s3 ⟨rs', t', rfl, G', hn', hs3, g3⟩
  have hl' := G'.len
  have gg := g1.trans (g2.trans g3)
  rw [ss_seq, ss_if, sat_and, sat_test, sat_bin, sat_call, sat_cons, sat_bin, sat_var rfl, sat_c, game_ix0, sat_nil]
  refine ⟨rfl, breadth_ok G'.ok (by omega) fun i => ?_⟩
  rw [sat_bin, sat_var rfl, sat_bin, sat_var rfl, sat_c, o_fdivI]
  refine ⟨by decide, ?_⟩
  rw [o_addI, o_leI, sat_truth]
  have fin : SatS (sRet (eVar 4) ([some (scr ns), some (.loc l), some (.int 24), some (.lst (ms.map fun m => .lst (ints' m))), some (gamePv rs t), some (gamePv rs' t')] : PEnv) s3) (fun _ s => Q PV.non s) Q := by
    rw [ss_ret, sat_var rfl]
    exact k rs t s3 g hn (by omega) hs3 gg
  by_cases hb : (!decide (24 + 24 / 2 < i)) = true
  · rw [if_pos hb, sat_test, sat_bin, sat_args, sat_cons, sat_bin, sat_var rfl, sat_c, game_ix0, sat_nil, sat_one, o_lenT, sat_c, o_leI, sat_truth, List.length_map]
    by_cases hc : (40 : Int) < rs'.length
    · rw [decide_eq_true hc, if_neg (by simp), ss_nil]
      exact fin
    · rw [decide_eq_false hc, if_pos (by rfl), ss_ret, sat_var rfl]
      exact k rs' t' s3 G' hn' (by omega) hs3 gg
  · rw [if_neg hb, if_neg (by simp), ss_nil]
    exact fin
end PL
/-! PL, part QP: the law. -/
namespace PL
open PySem PySem.Spec PyProof.Rows L2
theorem Dt.up {d : Nat} {v : PV} (h : Dt d v) : Dt (d + 1) v := by
  induction h with
  | s => exact .s
  | i => exact .i
  | b => exact .b
  | t h _ ih => exact .t h ih
  | l h _ ih => exact .l h ih
theorem Dt.mono {v : PV} {d : Nat} (h : Dt d v) : ∀ {e : Nat}, d ≤ e → Dt e v
  | 0, he => by
    have : d = 0 := by omega
    subst this; exact h
  | e + 1, he => by
    by_cases e1 : d = e + 1
    · subst e1; exact h
    · exact (h.mono (show d ≤ e by omega)).up
theorem row_dt {r : Row} (h : r.Ok) : Dt 2 r.pv := by
  unfold Row.pv
  refine .t (by simp) fun v m => ?_
  simp only [List.mem_cons, List.not_mem_nil, or_false] at m
  rcases m with rfl | rfl | rfl
  · exact .s
  · exact .i
  · refine .t (by rw [List.length_map]; have := h.w2; omega) fun v m => ?_
    obtain ⟨w, _, rfl⟩ := List.mem_map.mp m
    exact .i
theorem tree_dt {c d : Nat} {t : T} (hc : c ≤ 1000) (h : T.Fit c d t) : Dt (2 * d) t.pv := by
  induction h with
  | leaf _ => rw [leaf_pv]; exact .s
  | @node d n cs h1 h2 h3 ih =>
    rw [node_pv]
    show Dt (2 * d + 1 + 1) _
    refine .t (by simp) fun v m => ?_
    simp only [List.mem_cons, List.not_mem_nil, or_false] at m
    rcases m with rfl | rfl
    · exact .s
    · refine .t (by rw [T.pvs_len]; omega) fun v m => ?_
      rw [T.pvs_map] at m
      obtain ⟨x, mx, rfl⟩ := List.mem_map.mp m
      exact ih x mx
theorem game_dt {rs : List Row} {t : T} (hok : ∀ r ∈ rs, r.Ok) (hl : rs.length ≤ 10000) (hf : T.Fit 3 4 t) : Dt 9 (gamePv rs t) := by
  unfold gamePv
  refine .t (by simp) fun v m => ?_
  simp only [List.mem_cons, List.not_mem_nil, or_false] at m
  rcases m with rfl | rfl
  · refine .t (by rw [List.length_map]; omega) fun v m => ?_
    obtain ⟨r, mr, rfl⟩ := List.mem_map.mp m
    exact (row_dt (hok r mr)).mono (by decide)
  · exact tree_dt (by decide) hf
theorem word_dt {a : Str} {b : Bool} : Dt 9 (.lst [.str a, .bl b]) := by
  refine .l (by simp) fun v m => ?_
  simp only [List.mem_cons, List.not_mem_nil, or_false] at m
  rcases m with rfl | rfl
  · exact .s
  · exact .b
theorem told_yes {v : PV} {st : Store} (h : Dt 9 v) : m_law_told [v, v] st = .ok (.bl true) st := told_ok 60 9 v st h (by decide)
theorem sp_dt (q : Str × Str) : Dt 9 (spPv q) := by
  unfold spPv
  refine .t (by simp) fun v m => ?_
  simp only [List.mem_cons, List.not_mem_nil, or_false] at m
  rcases m with rfl | rfl <;> exact .s
theorem nd_ix0 {q : Nd} {st : Store} {Q : PV → Store → Prop} : Sat (pIx (ndPv [] [] q) (.int 0) st) Q = Q (pathPv q.1) st := by unfold ndPv; rw [o_ixT, ixW_0]; rfl
theorem nd_ix1 {q : Nd} {st : Store} {Q : PV → Store → Prop} : Sat (pIx (ndPv [] [] q) (.int 1) st) Q = Q q.2.1.pv st := by unfold ndPv; rw [o_ixT, ixW_1]
theorem nd_nm {q : Nd} {t : T} {st : Store} {Q : PV → Store → Prop} (m : q ∈ nodesR t) : Sat (pIx q.2.1.pv (.int 0) st) Q = Q (.str q.2.1.nm) st := by
  obtain ⟨_, n, cs, e⟩ := walk_of_mem m
  rw [e, node_pv, o_ixT, ixW_0]; rfl
theorem walk_det {t : T} {p : List Nat} {pr : List (Str × Nat)} {x : T} (w : Walk t p pr x) : ∀ {pr' : List (Str × Nat)} {y : T}, Walk t p pr' y → x = y := by
  induction w with
  | nil => intro _ _ h; cases h; rfl
  | @cons n cs i c x p pr h w ih =>
    intro _ _ h2
    cases h2 with
    | cons h' w' =>
      rw [h] at h'
      cases h'
      exact ih w'
theorem o_listP {l : Nat} {xs : List PV} {st : Store} {Q : PV → Store → Prop} (h : st[l]? = some (.lst xs)) : Sat (pList (.loc l) st) Q = Q (.lst xs) st := by
  have : seqOf st (.loc l) = some (false, xs) := by unfold seqOf; simp only [h]
  unfold pList
  rw [this]
  exact sat_ok
theorem fit_map {f : Str → Str} {c d : Nat} {t : T} (h : T.Fit c d t) (hf : ∀ q ∈ nodesR t, (f q.2.1.nm).length ≤ 60) : T.Fit c d (mapN f t) := by
  induction h with
  | leaf h => rw [mapN]; exact .leaf h
  | @node d n cs h1 h2 h3 ih =>
    rw [mapN]
    have e : mapNs f cs = cs.map (mapN f) := mapNs_map cs
    refine .node (hf ([], .node n cs, []) (by rw [nodesR]; exact List.mem_cons_self)) (by rw [e, List.length_map]; exact h2) fun y m => ?_
    rw [e] at m
    obtain ⟨x, mx, rfl⟩ := List.mem_map.mp m
    refine ih x mx fun q mq => ?_
    obtain ⟨i, hi, ei⟩ := List.getElem_of_mem mx
    refine hf ((0 + i) :: q.1, q.2.1, (n, 0 + i) :: q.2.2) (by rw [nodesR]; exact List.mem_cons_of_mem _ (mem_nodesRs_of (n := n) (i := 0) (j := i) (by rw [List.getElem?_eq_getElem hi, ei]) mq))
theorem fit_merge {rs : List Row} {t : T} {a b : Str} (g : Good rs t) (hc : canM rs t a b = true) : T.Fit 3 4 (mapN (mergeN a b) t) := by
  refine fit_map g.fit fun q m => ?_
  obtain ⟨r, mr, e⟩ := g.dec q m
  have := (g.ok r mr).n
  unfold mergeN
  split
  · unfold canM at hc
    cases h1 : rs.find? (rowP a) with
    | none => rw [h1] at hc; cases hc
    | some r1 =>
      have m1 := List.mem_of_find?_eq_some h1
      have e1 := List.find?_some h1
      have e1 : r1.n = a := by simpa [rowP] using e1
      have := (g.ok r1 m1).n
      rw [e1] at this
      omega
  · rw [← e]; omega
theorem law_ok (ns : List Int) (hn : ns.length ≤ 63) : ∃ s, m_law [scr ns] [] = .ok (.bl true) s := by
  have : Sat (m_law [scr ns] []) fun v s => v = .bl true := by
    refine sat_body ?_
    unfold f_law
    simp only [List.map_cons, List.map_nil, List.length_cons, List.length_nil, Nat.reduceAdd, Nat.reduceSub, List.reduceReplicate, List.cons_append, List.nil_append]
    rw [ss_seq, ss_set, sat_call, sat_cons, sat_var rfl, sat_nil]
    refine ⟨rfl, (source_ok (ns := ns)).mono ?_⟩
    rintro _ s0 ⟨rfl, o, rfl, hs⟩
    generalize hl : (([] : Store)).length = l at hs ⊢
    rw [ss_seq, ss_set, sat_call, sat_cons, sat_var rfl, sat_cons, sat_var rfl, sat_cons, sat_c, sat_nil]
    refine ⟨rfl, small_ok hs fun rs t s1 g hnode hrl hs1 g1 => ?_⟩
    have hpos := List.length_pos_iff.mpr g.ne
    have nl := nodes_len g.fit
    have nl : (nodesR t).length ≤ 256 := nl
    rw [ss_seq, ss_tg, sat_var rfl]
    refine ⟨([some (scr ns), some (PV.loc l), some (gamePv rs t), none, none, none, none, none, none, none, none, none, none, some (PV.tup (rs.map Row.pv)), some t.pv, none, none, none, none] : PEnv), rfl, ?_⟩
    rw [ss_seq, ss_set, sat_bin, sat_var rfl, sat_call, sat_cons, sat_var rfl, sat_cons, sat_var rfl, sat_cons, sat_args, sat_cons, sat_var rfl, sat_nil, sat_one, o_lenT, sat_nil]
    refine ⟨rfl, draw' hs1 (by rw [List.length_map]; omega) (log2_k (n := 40) (by omega) (by rw [List.length_map]; omega)) fun q1 s2 c0 c1 hs2 g2 => ?_⟩
    rw [o_ixT]
    refine draw_len c0 c1 fun y hy => ?_
    obtain ⟨x, mx, rfl⟩ := List.mem_map.mp hy
    rw [ss_seq, ss_set, sat_call, sat_cons, sat_var rfl, sat_cons, sat_args, sat_nil, sat_tup]
    refine ⟨sl0, ?_⟩
    rw [sat_cons, sat_args, sat_nil, sat_tup]
    refine ⟨sl0, ?_⟩
    rw [sat_nil]
    refine ⟨rfl, ?_⟩
    show Sat (fuelF 5 f_law_nodes 60 [t.pv, pathPv [], pairsPv []] s2) _
    rw [nodes_eq 60 4 t [] [] s2 g.fit (by decide) (by decide) (by decide) (by decide), sat_ok]
    -- the paths
    refine seq_mid (fun e s => ∃ (ps : List (List Nat)) (pl : Nat), e = ([some (scr ns), some (PV.loc l), some (gamePv rs t), some x.pv, some (PV.lst ((nodesR t).map (ndPv [] []))), some (PV.loc pl), none, none, none, none, none, none, none, some (PV.tup (rs.map Row.pv)), some t.pv, none, none, none, none] : PEnv) ∧ s[pl]? = some (.lst (ps.map pathPv)) ∧ ps.length ≤ 256 ∧ (∀ p ∈ ps, p ∈ pathsR x.n t) ∧ SrcAt s l ∧ l < pl) ?_ ?_
    · rw [ss_set, sat_comp, sat_iVal, sat_var rfl, o_itL]
      refine comp_inv (k := 0) (fun i acc s => ∃ ps : List (List Nat), acc = ps.map pathPv ∧ ps.length ≤ i ∧ (∀ p ∈ ps, p ∈ pathsR x.n t) ∧ SrcAt s l) ⟨[], rfl, Nat.le_refl _, nofun, hs2⟩ ?_ ?_
      · rintro i v s acc hv ⟨ps, rfl, h1, h2, h3⟩
        rw [List.getElem?_map] at hv
        cases eq : (nodesR t)[i]? with
        | none => rw [eq] at hv; cases hv
        | some q =>
          rw [eq] at hv
          cases hv
          have mq := List.mem_of_getElem? eq
          have hi := (List.getElem?_eq_some_iff.mp eq).1
          refine ⟨_, rfl, ?_⟩
          rw [sat_and, sat_test, sat_bin, sat_bin, sat_bin, sat_var (v := ndPv [] [] q) (by simp [wipeP]), sat_c, nd_ix1, sat_c, nd_nm mq, sat_bin, sat_var (v := x.pv) (by simp [wipeP]), sat_c, row_ix0, o_eqS, sat_truth]
          by_cases hnm : q.2.1.nm = x.n
          · rw [decide_eq_true hnm, if_pos rfl, sat_test, sat_bin, sat_call, sat_cons, sat_var (v := scr ns) (by simp [wipeP]), sat_cons, sat_var (v := .loc l) (by simp [wipeP]), sat_cons, sat_c, sat_nil]
            refine ⟨rfl, draw' h3 (by decide) (by decide) fun y s3 d0 d1 h4 g4 => ?_⟩
            rw [sat_c, o_eqI, sat_truth]
            by_cases hy : y = 0
            · rw [decide_eq_true hy, if_pos rfl, sat_bin, sat_var (v := ndPv [] [] q) (by simp [wipeP]), sat_c, nd_ix0]
              refine ⟨by rw [sizeLine_eq, List.length_map]; omega, ps ++ [q.1], by simp, by rw [List.length_append, List.length_singleton]; omega, fun p mp => ?_, h4⟩
              rcases List.mem_append.mp mp with mp | mp
              · exact h2 p mp
              · rw [List.mem_singleton.mp mp]
                unfold pathsR
                exact List.mem_map.mpr ⟨q, List.mem_filter.mpr ⟨mq, by simpa using hnm⟩, rfl⟩
            · rw [decide_eq_false hy, if_neg (by simp)]
              exact ⟨ps, rfl, by omega, h2, h4⟩
          · rw [decide_eq_false hnm, if_neg (by simp), if_neg (by simp)]
            exact ⟨ps, rfl, by omega, h2, h3⟩
      · rintro acc s ⟨ps, rfl, h1, h2, h3⟩
        rw [o_finT]
        rw [List.length_map] at h1
        exact ⟨ps, s.length, rfl, by simp, by omega, h2, h3.gr (L := []) .app (by simp), h3.lt⟩
    rintro e s3 ⟨ps, pl, rfl, hp3, hpl, hpp, hs3, hlp⟩
    rw [ss_seq, ss_set, sat_bin, sat_call, sat_cons, sat_var rfl, sat_cons, sat_var rfl, sat_cons, sat_c, sat_nil]
    refine ⟨rfl, draw' hs3 (by decide) (by decide) fun q2 s4 _ _ hs4 g4 => ?_⟩
    rw [sat_c, o_eqI]
    generalize decide (q2 = 0) = sg
    have hp4 := g4.at' hp3 (by simp; omega)
    -- a strange path
    refine seq_mid (fun e s => ∃ (ps : List (List Nat)) (a : Option PV), e = ([some (scr ns), some (PV.loc l), some (gamePv rs t), some x.pv, some (PV.lst ((nodesR t).map (ndPv [] []))), some (PV.loc pl), some (PV.bl sg), none, none, none, none, none, none, some (PV.tup (rs.map Row.pv)), some t.pv, a, none, none, none] : PEnv) ∧ s[pl]? = some (.lst (ps.map pathPv)) ∧ ps.length ≤ 300 ∧ (sg = false → ∀ p ∈ ps, p ∈ pathsR x.n t) ∧ (sg = true → ∃ p ∈ ps, p ∉ pathsR x.n t) ∧ SrcAt s l) ?_ ?_
    · rw [ss_if, sat_test, sat_var rfl, sat_truth]
      cases sg with
      | false =>
        rw [if_neg (by simp), ss_nil]
        exact ⟨ps, none, rfl, hp4, by omega, fun _ => hpp, nofun, hs4⟩
      | true =>
        rw [if_pos rfl, ss_seq, ss_set, sat_bin, sat_comp, sat_iVal, sat_var rfl, o_itL]
        refine comp_filt (as := nodesR t) (f := ndPv [] []) (g := fun q => pathPv q.1) (p := fun q => !decide (q.2.1.nm = x.n)) (by simp [wipeP]) (by omega) (fun q mq => t_ok fun Q k => by
          rw [sat_bin, sat_bin, sat_bin, sat_var (v := ndPv [] [] q) (by simp [wipeP]), sat_c, nd_ix1, sat_c, nd_nm mq, sat_bin, sat_var (v := x.pv) (by simp [wipeP]), sat_c, row_ix0, o_neS]; exact k) (fun q mq _ => det fun Q k => by rw [sat_bin, sat_var (v := ndPv [] [] q) (by simp [wipeP]), sat_c, nd_ix0]; exact k) ?_ _ trivial
        rw [o_finF, sat_args, sat_cons, sat_args, sat_cons, sat_c, sat_nil, sat_tup]
        refine ⟨sl1, ?_⟩
        rw [sat_nil, sat_lst]
        refine ⟨sl1, ?_⟩
        have fl := List.length_filter_le (fun q : Nd => !decide (q.2.1.nm = x.n)) (nodesR t)
        rw [o_addL]
        refine ⟨by rw [sizeLine_eq, List.length_map, List.length_singleton]; omega, ?_⟩
        obtain ⟨os, eos, hol, hne, hos⟩ : ∃ os : List (List Nat), (((nodesR t).filter fun q => !decide (q.2.1.nm = x.n)).map fun q => pathPv q.1) ++ [PV.tup [.int 64]] = os.map pathPv ∧ os.length ≤ 300 ∧ 0 < os.length ∧ ∀ p ∈ os, p ∉ pathsR x.n t := by
          refine ⟨((nodesR t).filter fun q => !decide (q.2.1.nm = x.n)).map (·.1) ++ [[64]], by simp [pathPv, nat, Function.comp], by rw [List.length_append, List.length_map, List.length_singleton]; omega, by rw [List.length_append, List.length_singleton]; omega, fun p mp hin => ?_⟩
          obtain ⟨pr, cs, w⟩ := mem_pathsR.mp hin
          rcases List.mem_append.mp mp with mp | mp
          · obtain ⟨q, mq, rfl⟩ := List.mem_map.mp mp
            have mq' := List.mem_filter.mp mq
            obtain ⟨w2, _⟩ := walk_of_mem mq'.1
            have := walk_det w w2
            have : q.2.1.nm = x.n := by rw [← this]; rfl
            simp [this] at mq'
          · rw [List.mem_singleton.mp mp] at w
            have := (w.deep g.fit).2 64 (by simp)
            omega
        rw [eos]
        rw [ss_expr, sat_meth, sat_var rfl]
        refine ⟨o_isL hp4, ?_⟩
        rw [sat_cons, sat_bin, sat_var rfl, sat_call, sat_cons, sat_var rfl, sat_cons, sat_var rfl, sat_cons, sat_args, sat_cons, sat_var rfl, sat_nil, sat_one, o_lenL, sat_nil]
        refine ⟨rfl, draw' hs4 (by rw [List.length_map]; omega) (log2_k (n := 300) (by omega) (by rw [List.length_map]; omega)) fun q3 s5 d0 d1 hs5 g5 => ?_⟩
        rw [o_ixL]
        refine draw_len d0 d1 fun y hy => ?_
        obtain ⟨p, mp, rfl⟩ := List.mem_map.mp hy
        have hp5 := g5.at' hp4 (by simp; omega)
        rw [sat_nil, o_app hp5]
        refine ⟨by rw [sizeLine_eq, List.length_map]; omega, ps ++ [p], _, rfl, ?_, by rw [List.length_append, List.length_singleton]; omega, nofun, fun _ => ⟨p, by simp, hos p mp⟩, hs5.gr (L := [pl]) (.set (by simp)) (by simp; omega)⟩
        rw [List.getElem?_set_self (lt_of_some hp5)]
        simp
    rintro e s5 ⟨ps, a15, rfl, hp5, hpl, hpf, hpt, hs5⟩
    rw [ss_seq, ss_set, sat_comp, sat_iVal, sat_var rfl, o_itT]
    refine comp_map (as := rs) (f := Row.pv) (g := fun r => PV.str r.n) (by simp [wipeP]) (by omega) (fun r mr => det fun Q k => by rw [sat_bin, sat_var (v := r.pv) (by simp [wipeP]), sat_c, row_ix0]; exact k) ?_ _ trivial
    rw [o_finF]
    have enm : (rs.map fun r => PV.str r.n) = (rs.map (·.n)).map PV.str := by simp
    rw [enm]
    have hnl : (rs.map (·.n)).length ≤ 40 := by rw [List.length_map]; omega
    rw [ss_seq, ss_set, sat_call, sat_cons, sat_var rfl, sat_cons, sat_var rfl, sat_cons, sat_var rfl, sat_nil]
    refine ⟨rfl, name' hs5 (Use.lst (n := 40) hnl) (by decide) fun z s6 zl zn hs6 g6 => ?_⟩
    have hp6 := g6.at' hp5 (by simp; omega)
    refine seq_mid (fun e s => ∃ new : Str, e = ([some (scr ns), some (PV.loc l), some (gamePv rs t), some x.pv, some (PV.lst ((nodesR t).map (ndPv [] []))), some (PV.loc pl), some (PV.bl sg), some (PV.lst ((rs.map (·.n)).map PV.str)), some (PV.str new), none, none, none, none, some (PV.tup (rs.map Row.pv)), some t.pv, a15, none, none, none] : PEnv) ∧ (new ∉ rs.map (·.n) → new.length ≤ 40) ∧ s[pl]? = some (.lst (ps.map pathPv)) ∧ SrcAt s l) ?_ ?_
    · rw [ss_if, sat_test, sat_bin, sat_call, sat_cons, sat_var rfl, sat_cons, sat_var rfl, sat_cons, sat_c, sat_nil]
      refine ⟨rfl, draw' hs6 (by decide) (by decide) fun q3 s7 _ _ hs7 g7 => ?_⟩
      have hp7 := g7.at' hp6 (by simp; omega)
      rw [sat_c, o_eqI, sat_truth]
      split
      · rw [ss_set, sat_bin, sat_var rfl, sat_call, sat_cons, sat_var rfl, sat_cons, sat_var rfl, sat_cons, sat_args, sat_cons, sat_var rfl, sat_nil, sat_one, o_lenL, sat_nil]
        refine ⟨rfl, draw' hs7 (by rw [List.length_map, List.length_map]; omega) (log2_k (n := 40) (by omega) (by rw [List.length_map, List.length_map]; omega)) fun q4 s8 d0 d1 hs8 g8 => ?_⟩
        rw [o_ixL]
        refine draw_len d0 d1 fun y hy => ?_
        obtain ⟨u, mu, rfl⟩ := List.mem_map.mp hy
        exact ⟨u, rfl, fun h => absurd mu h, g8.at' hp7 (by simp; omega), hs8⟩
      · rw [ss_nil]
        exact ⟨z, rfl, fun _ => by omega, hp7, hs7⟩
    rintro e s8 ⟨new, rfl, hnew, hp8, hs8⟩
    -- parted
    have hxo := g.ok x mx
    refine seq_mid (fun e s => ∃ v : PV, e = ([some (scr ns), some (PV.loc l), some (gamePv rs t), some x.pv, some (PV.lst ((nodesR t).map (ndPv [] []))), some (PV.loc pl), some (PV.bl sg), some (PV.lst ((rs.map (·.n)).map PV.str)), some (PV.str new), some v, none, none, none, some (PV.tup (rs.map Row.pv)), some t.pv, a15, none, none, none] : PEnv) ∧ (new ∈ rs.map (·.n) → v = .lst [.str "meet", .bl false]) ∧ (new ∉ rs.map (·.n) → sg = true → v = .lst [.str "path", .bl false]) ∧ (new ∉ rs.map (·.n) → sg = false → v = gamePv ((rs ++ [Row.mk new x.o x.ws]).mergeSort rowLe) (renS new (fun q => decide (q ∈ ps)) t)) ∧ s[pl]? = some (.lst (ps.map pathPv)) ∧ SrcAt s l) ?_ ?_
    · rw [ss_set, sat_call, sat_cons, sat_var rfl, sat_cons, sat_bin, sat_var rfl, sat_c, row_ix0, sat_cons, sat_args, sat_cons, sat_var rfl, sat_nil, sat_one, o_listP hp8, sat_cons, sat_var rfl, sat_nil]
      refine ⟨rfl, parted_or_ok g.fit g.ok (by omega) (find_mem g.nd mx) hxo (by omega) hnew ?_ ?_ ?_⟩
      · intro h
        exact ⟨_, rfl, fun _ => rfl, fun h' => absurd h h', fun h' => absurd h h', hp8, hs8⟩
      · intro h hx s gs
        refine ⟨_, rfl, fun h' => absurd h' h, fun _ _ => rfl, fun _ e => ?_, gs.at' hp8 (by simp), hs8.gr gs (by simp)⟩
        obtain ⟨p, m1, m2⟩ := hx
        exact absurd (hpf e p m1) m2
      · intro h hx s gs
        refine ⟨_, rfl, fun h' => absurd h' h, fun _ e => ?_, fun _ _ => rfl, gs.at' hp8 (by simp), hs8.gr gs (by simp)⟩
        obtain ⟨p, m1, m2⟩ := hpt e
        exact absurd (hx p m1) m2
    rintro e s9 ⟨v9, rfl, hv1, hv2, hv3, hp9, hs9⟩
    refine seq_mid (fun e s => ∃ (rs' : List Row) (t' : T) (a b c d e' f h j o : Option PV), e = ([some (scr ns), some (PV.loc l), some (gamePv rs' t'), a, b, c, d, e', f, h, none, none, none, some (PV.tup (rs.map Row.pv)), some t.pv, j, none, o, none] : PEnv) ∧ Good rs' t' ∧ rs'.length ≤ 41 ∧ SrcAt s l) ?_ ?_
    · rw [ss_if, sat_test, sat_bin, sat_var rfl, sat_var rfl, o_inStrs, sat_truth]
      by_cases hin : new ∈ rs.map (·.n)
      · rw [decide_eq_true hin, if_pos rfl, hv1 hin]
        rw [ss_if, sat_not, sat_test, sat_call, sat_cons, sat_var rfl, sat_cons, sat_args, sat_cons, sat_c, sat_cons, sat_c, sat_nil, sat_lst]
        refine ⟨sl2, ?_⟩
        rw [sat_nil]
        refine ⟨rfl, ?_⟩
        rw [told_yes word_dt, sat_ok, sat_truth, Bool.not_true, if_neg (by simp), ss_nil]
        exact ⟨rs, t, _, _, _, _, _, _, _, _, _, rfl, g, by omega, hs9⟩
      · rw [decide_eq_false hin, if_neg (by simp), ss_if, sat_test, sat_var rfl, sat_truth]
        cases hsg : sg with
        | true =>
          rw [if_pos rfl, hv2 hin hsg]
          rw [ss_if, sat_not, sat_test, sat_call, sat_cons, sat_var rfl, sat_cons, sat_args, sat_cons, sat_c, sat_cons, sat_c, sat_nil, sat_lst]
          refine ⟨sl2, ?_⟩
          rw [sat_nil]
          refine ⟨rfl, ?_⟩
          rw [told_yes word_dt, sat_ok, sat_truth, Bool.not_true, if_neg (by simp), ss_nil]
          exact ⟨rs, t, _, _, _, _, _, _, _, _, _, rfl, g, by omega, hs9⟩
        | false =>
          rw [if_neg (by simp), hv3 hin hsg]
          have hS : ∀ p pr n cs, Walk t p pr (.node n cs) → (fun q => decide (q ∈ ps)) p = true → n = x.n := fun p pr n cs w hm => by
            obtain ⟨pr', cs', w'⟩ := mem_pathsR.mp (hpf hsg p (by simpa using hm))
            have := walk_det w w'
            cases this
            rfl
          obtain ⟨B1, B2, B3, B4⟩ := parted_back (new := new) (S := fun q => decide (q ∈ ps)) g mx hin (hnew hin) (by omega) hS
          have hl' : ((rs ++ [Row.mk new x.o x.ws]).mergeSort rowLe).length ≤ 41 := by
            rw [(sort_perm _).length_eq, List.length_append, List.length_singleton]; omega
          have hsr : ((rs ++ [Row.mk new x.o x.ws]).map Row.pv) = rs.map Row.pv ++ [PV.tup [.str new, .int x.o, .tup (ints' x.ws)]] := by simp [Row.pv]
          have hox : (Row.mk new x.o x.ws).Ok := ⟨hnew hin, hxo.w1, hxo.w2, hxo.m⟩
          have hok' : ∀ r ∈ rs ++ [Row.mk new x.o x.ws], r.Ok := fun r mr => by
            rcases List.mem_append.mp mr with mr | mr
            · exact g.ok r mr
            · rw [List.mem_singleton.mp mr]; exact hox
          generalize hrs' : (rs ++ [Row.mk new x.o x.ws]).mergeSort rowLe = rs' at *
          generalize ht' : renS new (fun q => decide (q ∈ ps)) t = t' at *
          rw [ss_seq, ss_set, sat_args, sat_cons, sat_args, sat_cons, sat_args, sat_cons, sat_bin, sat_var rfl, sat_args, sat_cons, sat_args, sat_cons, sat_var rfl, sat_cons, sat_bin, sat_var rfl, sat_c, row_ix1, sat_cons, sat_bin, sat_var rfl, sat_c, row_ix2, sat_nil, sat_tup]
          refine ⟨sl3, ?_⟩
          rw [sat_nil, sat_tup]
          refine ⟨sl1, ?_⟩
          rw [o_addT]
          refine ⟨by rw [sizeLine_eq, List.length_map, List.length_singleton]; omega, ?_⟩
          rw [← hsr, sat_nil, sat_one]
          refine sorted_ok (b := true) (xs := (rs ++ [Row.mk new x.o x.ws]).map Row.pv) rfl (by simp; omega) (fun v m => ?_) ?_
          · obtain ⟨r, mr, rfl⟩ := List.mem_map.mp m
            exact (hok' r mr).g
          rw [sort_rows, sat_nil, sat_one, o_tupL, hrs', sat_cons, sat_call, sat_cons, sat_var rfl, sat_cons, sat_args, sat_nil, sat_tup]
          refine ⟨sl0, ?_⟩
          rw [sat_cons, sat_var rfl, sat_cons, sat_var rfl, sat_nil]
          refine ⟨rfl, own_parted_ok 60 4 t [] s9 _ g.fit (by decide) (by decide) (by decide) hp9 fun s10 g10 => ?_⟩
          have ht2 : renS new (fun q => decide ([] ++ q ∈ ps)) t = t' := ht'
          rw [ht2, sat_nil, sat_tup]
          refine ⟨sl2, ?_⟩
          have hs10 := hs9.gr g10 (by simp)
          show SatS _ _ _
          have dt' := game_dt (rs := rs') (t := t') B3.ok (by omega) B3.fit
          rw [ss_seq, ss_if, sat_or, sat_not, sat_test, sat_call, sat_cons, sat_var rfl, sat_cons, sat_var (v := gamePv rs' t') rfl, sat_nil]
          refine ⟨rfl, ?_⟩
          rw [told_yes dt', sat_ok, sat_truth, Bool.not_true, if_neg (by simp), sat_not, sat_test, sat_call, sat_cons, sat_call, sat_cons, sat_var (v := gamePv rs' t') rfl, sat_cons, sat_bin, sat_var rfl, sat_c, row_ix0, sat_cons, sat_var rfl, sat_nil]
          refine ⟨rfl, mingled_or_ok B3.fit (by omega) fun s11 g11 => ?_⟩
          have hm : mapN (mergeN x.n new) t' = t := B1
          rw [B2, if_pos rfl, B4, hm, sat_cons, sat_var rfl, sat_nil]
          refine ⟨rfl, ?_⟩
          rw [told_yes (game_dt g.ok (by omega) g.fit), sat_ok, sat_truth, Bool.not_true, if_neg (by simp), ss_nil, ss_set, sat_var (v := gamePv rs' t') rfl]
          exact ⟨rs', t', _, _, _, _, _, _, _, _, _, rfl, B3, hl', hs10.gr g11 (by simp)⟩
    rintro e s10 ⟨rs', t', a, b, c, d, e', f, h, j, o', rfl, G, hl', hs10⟩
    have hpos' := List.length_pos_iff.mpr G.ne
    have hgl : rs'.length ≤ 400 := by omega
    have gix0 : ∀ (s : Store) (Q : PV → Store → Prop), Sat (pIx (gamePv rs' t') (.int 0) s) Q = Q (.tup (rs'.map Row.pv)) s := fun s Q => game_ix0
    have gix1 : ∀ (s : Store) (Q : PV → Store → Prop), Sat (pIx (gamePv rs' t') (.int 1) s) Q = Q t'.pv s := fun s Q => game_ix1
    have ecan : ∀ (a b : Str) (s : Store), m_law_can_mingle [gamePv rs' t', .str a, .str b] s = .ok (.bl (canM rs' t' a b)) s := fun a b s => can_mingle_eq G.fit
    have emin : ∀ (a b : Str) (s : Store) (Q : PV → Store → Prop), (∀ s', Gr [] s s' → Q (if canM rs' t' a b = true then gamePv (rs'.filter fun r => !decide (r.n = b)) (mapN (mergeN a b) t') else .lst [.str "step", .bl false]) s') → Sat (m_law_mingled_or [gamePv rs' t', .str a, .str b] s) Q := fun a b s Q k => mingled_or_ok G.fit (by omega) k
    have esp : ∀ (s : Store) (Q : PV → Store → Prop), (∀ s', Gr [] s s' → s'[s.length]? = some (.lst ((spairs rs' (pairP rs' t') rs').map spPv)) → Q (.loc s.length) s') → Sat (m_set_pairs [gamePv rs' t'] s) Q := fun s Q k => set_pairs_ok G.fit G.nd hgl k
    have edt : ∀ a b, canM rs' t' a b = true → Dt 9 (gamePv (rs'.filter fun r => !decide (r.n = b)) (mapN (mergeN a b) t')) := fun a b hc => game_dt (fun r mr => G.ok r (List.mem_filter.mp mr).1) (by have := List.length_filter_le (fun r : Row => !decide (r.n = b)) rs'; omega) (fit_merge G hc)
    generalize hG : gamePv rs' t' = g0 at *
    -- the pairs
    rw [ss_seq, ss_set, sat_args, sat_nil, sat_loc]
    refine ⟨sl0, ?_⟩
    have hs11 : SrcAt (s10 ++ [PO.lst []]) l := hs10.gr (L := []) .app (by simp)
    have hp11 : (s10 ++ [PO.lst []])[s10.length]? = some (.lst []) := by simp
    have lt10 := hs10.lt
    generalize s10 ++ [PO.lst []] = s11 at *
    generalize hpp' : s10.length = pp at *
    rw [ss_seq]
    refine (pair_loop (rs := rs') (mk := fun u w => ([some (scr ns), some (PV.loc l), some (g0), a, b, c, d, e', f, h, some (PV.loc pp), u, none, some (PV.tup (rs.map Row.pv)), some t.pv, j, w, o', none] : PEnv)) (l := pp) (P := pairP rs' t') (I := fun s => SrcAt s l) (st := s11) (a0 := none) (b0 := none) hgl (fun _ _ _ => rfl) (fun _ _ _ => rfl) (fun u w s Qx q => by rw [sat_iVal, sat_bin, sat_var rfl, sat_c, gix0, o_itT]; exact q) ?_ hp11 hs11).mono ?_ fun _ _ z => z
    · intro r mr o mo s acc hacc hs hI
      rw [ss_if, sat_and, sat_test, sat_bin, sat_bin, sat_var rfl, sat_c, row_ix0, sat_bin, sat_var rfl, sat_c, row_ix0, o_ltS, sat_truth]
      unfold pairP
      cases h1 : strLt r.n o.n with
      | false =>
        rw [if_neg (by simp), if_neg (by simp), ss_nil, Bool.false_and, if_neg (by simp), List.append_nil]
        exact ⟨rfl, hI, hs⟩
      | true =>
        rw [if_pos rfl, sat_test, sat_call, sat_cons, sat_var rfl, sat_cons, sat_bin, sat_var rfl, sat_c, row_ix0, sat_cons, sat_bin, sat_var rfl, sat_c, row_ix0, sat_nil]
        refine ⟨rfl, ?_⟩
        rw [ecan, sat_ok, sat_truth, Bool.true_and]
        cases h2 : canM rs' t' r.n o.n with
        | false =>
          rw [if_neg (by simp), ss_nil, if_neg (by simp), List.append_nil]
          exact ⟨rfl, hI, hs⟩
        | true =>
          rw [if_pos rfl, if_pos rfl, ss_expr, sat_meth, sat_var rfl]
          refine ⟨o_isL hs, ?_⟩
          rw [sat_cons, sat_args, sat_cons, sat_bin, sat_var rfl, sat_c, row_ix0, sat_cons, sat_bin, sat_var rfl, sat_c, row_ix0, sat_nil, sat_tup]
          refine ⟨sl2, ?_⟩
          rw [sat_nil, o_app hs]
          refine ⟨by rw [sizeLine_eq, List.length_map]; omega, rfl, hI.gr (L := [pp]) (.set (by simp)) (by simp; omega), ?_⟩
          rw [List.getElem?_set_self (lt_of_some hs)]
          simp [spPv]
    rintro e s12 ⟨⟨u, w, rfl⟩, hs12, hp12⟩
    have spl := spairs_len (rs := rs') (P := pairP rs' t') rs'
    have sq : rs'.length * rs'.length ≤ 160000 := Nat.mul_le_mul hgl hgl
    rw [ss_seq, ss_if, sat_not, sat_test, sat_call, sat_cons, sat_call, sat_cons, sat_var rfl, sat_nil]
    refine ⟨rfl, esp s12 _ fun s13 g13 hp13 => ?_⟩
    rw [sat_cons, sat_var rfl, sat_nil]
    refine ⟨rfl, ?_⟩
    have hp13' := g13.at' hp12 (by simp)
    have hs13 := hs12.gr g13 (by simp)
    have et : m_law_told [.loc s12.length, .loc pp] s13 = .ok (.bl true) s13 := told_loc (n := 59) (d := 9) hp13 hp13' (by rw [List.length_map]; omega) (fun v m => by
      obtain ⟨q, _, rfl⟩ := List.mem_map.mp m
      exact sp_dt q) (by decide)
    rw [et, sat_ok, sat_truth, Bool.not_true, if_neg (by simp), ss_nil]
    -- the names, and absent
    rw [ss_seq, ss_set, sat_bin, sat_comp, sat_iVal, sat_bin, sat_var rfl, sat_c, gix0, o_itT]
    refine comp_map (as := rs') (f := Row.pv) (g := fun r => PV.str r.n) (by simp [wipeP]) (by omega) (fun r mr => det fun Q k => by rw [sat_bin, sat_var (v := r.pv) (by simp [wipeP]), sat_c, row_ix0]; exact k) ?_ _ trivial
    rw [o_finF, sat_args, sat_cons, sat_c, sat_nil, sat_lst]
    refine ⟨sl1, ?_⟩
    rw [o_addL]
    refine ⟨by rw [sizeLine_eq, List.length_map, List.length_singleton]; omega, ?_⟩
    obtain ⟨us, eus, hul, hu0⟩ : ∃ us : List Str, (rs'.map fun r => PV.str r.n) ++ [PV.str "absent"] = us.map PV.str ∧ us.length ≤ 50 ∧ 0 < us.length := ⟨rs'.map (·.n) ++ [("absent" : Str)], by simp, by simp; omega, by simp⟩
    rw [eus]
    refine seq_mid (fun e s => True) ?_ ?_
    · rw [ss_for, sat_iRange1, sat_c, o_rng]
      refine ⟨by decide, ?_⟩
      refine for_invN (k := 0) (fun i e s => (∃ x1 x2 x3 x4 x5, e = ([some (scr ns), some (PV.loc l), some (g0), a, b, c, d, (some (PV.lst (us.map PV.str))), f, x1, some (PV.loc pp), x2, x3, some (PV.tup (rs.map Row.pv)), some t.pv, j, x4, x5, none] : PEnv)) ∧ SrcAt s l) ⟨⟨_, _, _, _, _, rfl⟩, hs13⟩ ?_ (fun _ _ _ => trivial)
      rintro i v e s hv ⟨⟨x1, x2, x3, x4, x5, rfl⟩, hI⟩
      refine ⟨([some (scr ns), some (PV.loc l), some (g0), a, b, c, d, (some (PV.lst (us.map PV.str))), f, x1, some (PV.loc pp), x2, some v, some (PV.tup (rs.map Row.pv)), some t.pv, j, x4, x5, none] : PEnv), rfl, ?_⟩
      rw [ss_seq, ss_set, sat_bin, sat_var rfl, sat_call, sat_cons, sat_var rfl, sat_cons, sat_var rfl, sat_cons, sat_args, sat_cons, sat_var rfl, sat_nil, sat_one, o_lenL, sat_nil]
      refine ⟨rfl, draw' hI (by rw [List.length_map]; omega) (log2_k (n := 50) (by omega) (by rw [List.length_map]; omega)) fun q4 s1 d0 d1 hs1 g1 => ?_⟩
      rw [o_ixL]
      refine draw_len d0 d1 fun y hy => ?_
      obtain ⟨one, m1, rfl⟩ := List.mem_map.mp hy
      rw [ss_seq, ss_set, sat_bin, sat_var rfl, sat_call, sat_cons, sat_var rfl, sat_cons, sat_var rfl, sat_cons, sat_args, sat_cons, sat_var rfl, sat_nil, sat_one, o_lenL, sat_nil]
      refine ⟨rfl, draw' hs1 (by rw [List.length_map]; omega) (log2_k (n := 50) (by omega) (by rw [List.length_map]; omega)) fun q5 s2 d0 d1 hs2 g2 => ?_⟩
      rw [o_ixL]
      refine draw_len d0 d1 fun y hy => ?_
      obtain ⟨two, m2, rfl⟩ := List.mem_map.mp hy
      rw [ss_seq, ss_set, sat_call, sat_cons, sat_var rfl, sat_cons, sat_var rfl, sat_cons, sat_var rfl, sat_nil]
      refine ⟨rfl, emin one two s2 _ fun s3 g3 => ?_⟩
      have hs3 := hs2.gr g3 (by simp)
      rw [ss_if, sat_not, sat_test, sat_call, sat_cons, sat_var rfl, sat_cons, sat_var rfl, sat_cons, sat_var rfl, sat_nil]
      refine ⟨rfl, ?_⟩
      rw [ecan, sat_ok, sat_truth]
      cases hc : canM rs' t' one two with
      | false =>
        rw [Bool.not_false, if_pos rfl, if_neg (by simp), ss_if, sat_not, sat_test, sat_call, sat_cons, sat_var rfl, sat_cons, sat_args, sat_cons, sat_c, sat_cons, sat_c, sat_nil, sat_lst]
        refine ⟨sl2, ?_⟩
        rw [sat_nil]
        refine ⟨rfl, ?_⟩
        rw [told_yes word_dt, sat_ok, sat_truth, Bool.not_true, if_neg (by simp), ss_nil]
        exact ⟨⟨_, _, _, _, _, rfl⟩, hs3⟩
      | true =>
        have hdt := edt one two hc
        rw [Bool.not_true, if_neg (by simp), if_pos rfl, ss_seq, ss_set, sat_args, sat_cons, sat_args, sat_cons]
        refine but_row (nm := two) (rs := rs') (by simp) rfl (by decide) (by omega) [18] rfl ?_ (det fun Q k => by rw [sat_bin, sat_var rfl, sat_c, gix0]; exact k)
        rw [sat_nil, sat_one, o_tupL, sat_cons, sat_call, sat_cons, sat_bin, sat_var rfl, sat_c, gix1, sat_cons, sat_var rfl, sat_cons, sat_args, sat_nil, sat_tup]
        refine ⟨sl0, ?_⟩
        rw [sat_cons, sat_var rfl, sat_nil]
        refine ⟨rfl, ?_⟩
        show Sat (fuelF 7 f_law_moved 60 [t'.pv, .str two, .tup [], .str one] s3) _
        rw [moved_eq 60 4 t' s3 G.fit (by decide) (by decide), sat_ok, sat_nil, sat_tup]
        refine ⟨sl2, ?_⟩
        rw [ss_if, sat_not, sat_test, sat_call, sat_cons, sat_var rfl, sat_cons, sat_var (v := gamePv (rs'.filter fun r => !decide (r.n = two)) (mapN (mergeN one two) t')) rfl, sat_nil]
        refine ⟨rfl, ?_⟩
        rw [told_yes hdt, sat_ok, sat_truth, Bool.not_true, if_neg (by simp), ss_nil]
        exact ⟨⟨_, _, _, _, _, rfl⟩, hs3⟩
    rintro e s14 _
    rw [ss_ret, sat_c]
  obtain ⟨v, s, e, rfl⟩ := this.elim
  exact ⟨s, e⟩
end PL
/-! printed by gen.py: the text's places -/
namespace PL
open PySem PySem.Spec PyProof.Rows L2
def topS (i : Nat) : Stmt := PySem.Challenge.pw_sequencesandadvice_k77_sets_parted_and_m.main.body.getD i (.Pass ⟨0, 0, 0, 0⟩)
structure Blt (mg : Str → Option Value) : Prop where
  b_abs : mg "abs" = none
  b_bool : mg "bool" = none
  b_dict : mg "dict" = none
  b_enumerate : mg "enumerate" = none
  b_int : mg "int" = none
  b_isinstance : mg "isinstance" = none
  b_len : mg "len" = none
  b_list : mg "list" = none
  b_range : mg "range" = none
  b_sorted : mg "sorted" = none
  b_str : mg "str" = none
  b_tuple : mg "tuple" = none
abbrev s_row_of : Stmt := topS 6
theorem sc_row_of : FnScope N_row_of ["game", "name"] (defScope s_row_of) := ⟨rfl, rfl, rfl, by decide +kernel, rfl, by decide +kernel, by decide +kernel⟩
abbrev s_with_row : Stmt := topS 7
theorem sc_with_row : FnScope N_with_row ["sets", "row"] (defScope s_with_row) := ⟨rfl, rfl, rfl, by decide +kernel, rfl, by decide +kernel, by decide +kernel⟩
abbrev s_without_row : Stmt := topS 8
theorem sc_without_row : FnScope N_without_row ["sets", "name"] (defScope s_without_row) := ⟨rfl, rfl, rfl, by decide +kernel, rfl, by decide +kernel, by decide +kernel⟩
abbrev s_node_at : Stmt := topS 10
theorem sc_node_at : FnScope N_node_at ["tree", "path"] (defScope s_node_at) := ⟨rfl, rfl, rfl, by decide +kernel, rfl, by decide +kernel, by decide +kernel⟩
abbrev s_replaced : Stmt := topS 11
theorem sc_replaced : FnScope N_replaced ["tree", "path", "node"] (defScope s_replaced) := ⟨rfl, rfl, rfl, by decide +kernel, rfl, by decide +kernel, by decide +kernel⟩
abbrev s_above : Stmt := topS 12
theorem sc_above : FnScope N_above ["tree", "path"] (defScope s_above) := ⟨rfl, rfl, rfl, by decide +kernel, rfl, by decide +kernel, by decide +kernel⟩
abbrev s_paths_of : Stmt := topS 13
theorem sc_paths_of : FnScope N_paths_of ["tree", "name"] (defScope s_paths_of) := ⟨rfl, rfl, rfl, by decide +kernel, rfl, by decide +kernel, by decide +kernel⟩
abbrev s_parted : Stmt := topS 15
theorem sc_parted : FnScope N_parted ["game", "name", "paths", "new"] (defScope s_parted) := ⟨rfl, rfl, rfl, by decide +kernel, rfl, by decide +kernel, by decide +kernel⟩
abbrev s_renamed_nodes : Stmt := topS 16
theorem sc_renamed_nodes : FnScope N_renamed_nodes ["tree", "other", "name"] (defScope s_renamed_nodes) := ⟨rfl, rfl, rfl, by decide +kernel, rfl, by decide +kernel, by decide +kernel⟩
abbrev s_one_way_passes : Stmt := topS 17
theorem sc_one_way_passes : FnScope N_one_way_passes ["game", "name", "other"] (defScope s_one_way_passes) := ⟨rfl, rfl, rfl, by decide +kernel, rfl, by decide +kernel, by decide +kernel⟩
abbrev s_mingled : Stmt := topS 18
theorem sc_mingled : FnScope N_mingled ["game", "name", "other"] (defScope s_mingled) := ⟨rfl, rfl, rfl, by decide +kernel, rfl, by decide +kernel, by decide +kernel⟩
abbrev s_set_pairs : Stmt := topS 19
theorem sc_set_pairs : FnScope N_set_pairs ["game"] (defScope s_set_pairs) := ⟨rfl, rfl, rfl, by decide +kernel, rfl, by decide +kernel, by decide +kernel⟩
abbrev s_law_source : Stmt := topS 21
theorem sc_law_source : FnScope N_law_source ["script"] (defScope s_law_source) := ⟨rfl, rfl, rfl, by decide +kernel, rfl, by decide +kernel, by decide +kernel⟩
abbrev s_law_draw : Stmt := topS 22
theorem sc_law_draw : FnScope N_law_draw ["script", "source", "limit"] (defScope s_law_draw) := ⟨rfl, rfl, rfl, by decide +kernel, rfl, by decide +kernel, by decide +kernel⟩
abbrev s_law_name : Stmt := topS 23
theorem sc_law_name : FnScope N_law_name ["script", "source", "used"] (defScope s_law_name) := ⟨rfl, rfl, rfl, by decide +kernel, rfl, by decide +kernel, by decide +kernel⟩
abbrev s_law_gcd : Stmt := topS 24
theorem sc_law_gcd : FnScope N_law_gcd ["a", "b"] (defScope s_law_gcd) := ⟨rfl, rfl, rfl, by decide +kernel, rfl, by decide +kernel, by decide +kernel⟩
abbrev s_law_reduced : Stmt := topS 25
theorem sc_law_reduced : FnScope N_law_reduced ["weights"] (defScope s_law_reduced) := ⟨rfl, rfl, rfl, by decide +kernel, rfl, by decide +kernel, by decide +kernel⟩
abbrev s_law_tree : Stmt := topS 26
theorem sc_law_tree : FnScope N_law_tree ["script", "source", "free", "outcomes", "room", "wish"] (defScope s_law_tree) := ⟨rfl, rfl, rfl, by decide +kernel, rfl, by decide +kernel, by decide +kernel⟩
abbrev s_law_row : Stmt := topS 27
theorem sc_law_row : FnScope N_law_row ["rows", "name"] (defScope s_law_row) := ⟨rfl, rfl, rfl, by decide +kernel, rfl, by decide +kernel, by decide +kernel⟩
abbrev s_law_nodes : Stmt := topS 28
theorem sc_law_nodes : FnScope N_law_nodes ["tree", "path", "pairs"] (defScope s_law_nodes) := ⟨rfl, rfl, rfl, by decide +kernel, rfl, by decide +kernel, by decide +kernel⟩
abbrev s_law_moved : Stmt := topS 29
theorem sc_law_moved : FnScope N_law_moved ["tree", "name", "order", "new"] (defScope s_law_moved) := ⟨rfl, rfl, rfl, by decide +kernel, rfl, by decide +kernel, by decide +kernel⟩
abbrev s_law_told : Stmt := topS 30
theorem sc_law_told : FnScope N_law_told ["answer", "due"] (defScope s_law_told) := ⟨rfl, rfl, rfl, by decide +kernel, rfl, by decide +kernel, by decide +kernel⟩
abbrev s_law_breadth : Stmt := topS 31
theorem sc_law_breadth : FnScope N_law_breadth ["rows"] (defScope s_law_breadth) := ⟨rfl, rfl, rfl, by decide +kernel, rfl, by decide +kernel, by decide +kernel⟩
abbrev s_law_mark_name : Stmt := topS 33
theorem sc_law_mark_name : FnScope N_law_mark_name ["who", "number"] (defScope s_law_mark_name) := ⟨rfl, rfl, rfl, by decide +kernel, rfl, by decide +kernel, by decide +kernel⟩
abbrev s_law_marked_for : Stmt := topS 34
theorem sc_law_marked_for : FnScope N_law_marked_for ["rows", "tree", "who", "past", "marks"] (defScope s_law_marked_for) := ⟨rfl, rfl, rfl, by decide +kernel, rfl, by decide +kernel, by decide +kernel⟩
abbrev s_law_told_apart : Stmt := topS 32
theorem sc_law_told_apart : FnScope N_law_told_apart ["game", "who"] (defScope s_law_told_apart) := ⟨rfl, rfl, rfl, by decide +kernel, rfl, by decide +kernel, by decide +kernel⟩
abbrev s_law_owned : Stmt := topS 35
theorem sc_law_owned : FnScope N_law_owned ["script", "source", "owners", "most"] (defScope s_law_owned) := ⟨rfl, rfl, rfl, by decide +kernel, rfl, by decide +kernel, by decide +kernel⟩
abbrev s_law_outcome_names : Stmt := topS 36
theorem sc_law_outcome_names : FnScope N_law_outcome_names ["script", "source", "least", "more"] (defScope s_law_outcome_names) := ⟨rfl, rfl, rfl, by decide +kernel, rfl, by decide +kernel, by decide +kernel⟩
abbrev s_law_grown_game : Stmt := topS 37
theorem sc_law_grown_game : FnScope N_law_grown_game ["script", "source", "owners", "most", "nodes"] (defScope s_law_grown_game) := ⟨rfl, rfl, rfl, by decide +kernel, rfl, by decide +kernel, by decide +kernel⟩
abbrev s_law_small : Stmt := topS 38
theorem sc_law_small : FnScope N_law_small ["script", "source", "most"] (defScope s_law_small) := ⟨rfl, rfl, rfl, by decide +kernel, rfl, by decide +kernel, by decide +kernel⟩
abbrev s_law_own_parted : Stmt := topS 39
theorem sc_law_own_parted : FnScope N_law_own_parted ["tree", "path", "paths", "new"] (defScope s_law_own_parted) := ⟨rfl, rfl, rfl, by decide +kernel, rfl, by decide +kernel, by decide +kernel⟩
abbrev s_law_parted_or : Stmt := topS 40
theorem sc_law_parted_or : FnScope N_law_parted_or ["game", "name", "paths", "new"] (defScope s_law_parted_or) := ⟨rfl, rfl, rfl, by decide +kernel, rfl, by decide +kernel, by decide +kernel⟩
abbrev s_law_mingled_or : Stmt := topS 41
theorem sc_law_mingled_or : FnScope N_law_mingled_or ["game", "name", "other"] (defScope s_law_mingled_or) := ⟨rfl, rfl, rfl, by decide +kernel, rfl, by decide +kernel, by decide +kernel⟩
abbrev s_law_can_mingle : Stmt := topS 42
theorem sc_law_can_mingle : FnScope N_law_can_mingle ["game", "name", "other"] (defScope s_law_can_mingle) := ⟨rfl, rfl, rfl, by decide +kernel, rfl, by decide +kernel, by decide +kernel⟩
abbrev s_law : Stmt := topS 43
theorem sc_law : FnScope N_law ["script"] (defScope s_law) := ⟨rfl, rfl, rfl, by decide +kernel, rfl, by decide +kernel, by decide +kernel⟩
end PL
/-! printed by gen.py: row_of is worth its evaluator -/
namespace PL
open PySem PySem.Spec PyProof.Rows L2
section
variable {P : Program} {w : World} {K : PySem.W.Frag} {mg : Str → Option Value} {base : Heap}
theorem has_row_of (B : Blt mg) (d : DefOf K mg "row_of" s_row_of ["game", "name"])   : Has P w K mg base "row_of" ["game", "name"] 1 m_row_of :=
  has_of (k := 0) (N := N_row_of) d sc_row_of fun cdv A outer s H E hr =>
  (mb_cons (ms_for PassesOwn.never rfl (mi_val (me_ix is_ix (me_var 0) me_int)) (mg_one (i := 2) sc_row_of.nd)
    (mb_one (ms_if (mt_cmp (os_eq hr.units) (me_ix is_ix (me_var 2) me_int) (me_var 1)) (mb_one (ms_ret (me_var 2))) mb_nil)))
    (mb_one (ms_ret me_non)))
end
end PL
/-! printed by gen.py: with_row is worth its evaluator -/
namespace PL
open PySem PySem.Spec PyProof.Rows L2
section
variable {P : Program} {w : World} {K : PySem.W.Frag} {mg : Str → Option Value} {base : Heap}
theorem has_with_row (B : Blt mg) (d : DefOf K mg "with_row" s_with_row ["sets", "row"])   : Has P w K mg base "with_row" ["sets", "row"] 1 m_with_row :=
  has_of (k := 0) (N := N_with_row) d sc_with_row fun cdv A outer s H E hr =>
  (mb_one (ms_ret (me_callTy cs_tuple rfl B.b_tuple bt_tuple (ma_cons (me_callB (cs_sortedA hr.units) rfl B.b_sorted bb_sorted (ma_cons (me_bin os_add (me_var 0) (me_tup (ma_cons (me_var 1) ma_nil))) ma_nil)) ma_nil))))
end
end PL
/-! printed by gen.py: without_row is worth its evaluator -/
namespace PL
open PySem PySem.Spec PyProof.Rows L2
section
variable {P : Program} {w : World} {K : PySem.W.Frag} {mg : Str → Option Value} {base : Heap}
theorem has_without_row (B : Blt mg) (d : DefOf K mg "without_row" s_without_row ["sets", "name"])   : Has P w K mg base "without_row" ["sets", "name"] 1 m_without_row :=
  has_of (k := 0) (N := N_without_row) d sc_without_row fun cdv A outer s H E hr =>
  (mb_one (ms_ret (me_callTy cs_tuple rfl B.b_tuple bt_tuple (ma_cons (me_compG false (own := [("row", 2)]) rfl sc_without_row.nd (mi_val (me_var 0)) (blkOk_by (own := [("row", 2)]) (N := N_without_row) (sc := defScope s_without_row) (by decide +kernel)) (fun _ _ _ _ _ => (mg_one (i := 2) sc_without_row.nd)) (fun _ _ _ _ _ => (mts_one (mt_cmp (os_ne hr.units) (me_ix is_ix (me_var 2) me_int) (me_var 1)))) (fun _ _ _ _ _ => (me_var 2))) ma_nil))))
end
end PL
/-! printed by gen.py: node_at is worth its evaluator -/
namespace PL
open PySem PySem.Spec PyProof.Rows L2
section
variable {P : Program} {w : World} {K : PySem.W.Frag} {mg : Str → Option Value} {base : Heap}
theorem has_node_at (B : Blt mg) (d : DefOf K mg "node_at" s_node_at ["tree", "path"])   : Has P w K mg base "node_at" ["tree", "path"] 1 m_node_at :=
  has_of (k := 0) (N := N_node_at) d sc_node_at fun cdv A outer s H E hr =>
  (mb_cons (ms_set (i := 2) sc_node_at.nd (me_var 0))
    (mb_cons (ms_for PassesOwn.never rfl (mi_val (me_var 1)) (mg_one (i := 3) sc_node_at.nd)
    (mb_cons (ms_if (PW.pt (mw_or (mt_val (me_callB cs_isi rfl B.b_isinstance bb_isinstance (ma_cons (me_var 2) (ma_cons (me_bval (v := .ty "str") rfl B.b_str bt_str rfl) ma_nil)))) (mw_or1 (mt_not (mt_chain (os_le hr.units) (os_lt hr.units) me_int (me_var 3) (me_callB cs_len rfl B.b_len bb_len (ma_cons (me_ix is_ix (me_var 2) me_int) ma_nil))))))) (mb_one ms_stuck) mb_nil)
    (mb_one (ms_set (i := 2) sc_node_at.nd (me_ix is_ix (me_ix is_ix (me_var 2) me_int) (me_var 3))))))
    (mb_one (ms_ret (me_var 2)))))
end
end PL
/-! printed by gen.py: replaced is worth its evaluator -/
namespace PL
open PySem PySem.Spec PyProof.Rows L2
section
variable {P : Program} {w : World} {K : PySem.W.Frag} {mg : Str → Option Value} {base : Heap}
theorem has_replaced (B : Blt mg) (d : DefOf K mg "replaced" s_replaced ["tree", "path", "node"])   : Has P w K mg base "replaced" ["tree", "path", "node"] 61 m_replaced :=
  has_rec (k := 1) (n := 60) (N := N_replaced) d sc_replaced (by decide) fun n HS cdv A outer s H E hr =>
  (mb_cons (ms_if (mt_cmp (os_eq hr.units) (me_var 1) (me_tup ma_nil)) (mb_one (ms_ret (me_var 2))) mb_nil)
    (mb_cons (ms_set (i := 3) sc_replaced.nd (me_ix is_ix (me_var 1) me_int))
    (mb_cons (ms_if (PW.pt (mw_or (mt_val (me_callB cs_isi rfl B.b_isinstance bb_isinstance (ma_cons (me_var 0) (ma_cons (me_bval (v := .ty "str") rfl B.b_str bt_str rfl) ma_nil)))) (mw_or1 (mt_not (mt_chain (os_le hr.units) (os_lt hr.units) me_int (me_var 3) (me_callB cs_len rfl B.b_len bb_len (ma_cons (me_ix is_ix (me_var 0) me_int) ma_nil))))))) (mb_one ms_stuck) mb_nil)
    (mb_cons (ms_set (i := 4) sc_replaced.nd (me_ix is_ix (me_var 0) me_int))
    (mb_cons (ms_set (i := 5) sc_replaced.nd (me_callH HS hr (ma_cons (me_ix is_ix (me_var 4) (me_var 3)) (ma_cons (me_sl ss_sl (me_var 1) (mo_some me_int) mo_none) (ma_cons (me_var 2) ma_nil)))))
    (mb_one (ms_ret (me_tup (ma_cons (me_ix is_ix (me_var 0) me_int) (ma_cons (me_bin os_add (me_bin os_add (me_sl ss_sl (me_var 4) mo_none (mo_some (me_var 3))) (me_tup (ma_cons (me_var 5) ma_nil))) (me_sl ss_sl (me_var 4) (mo_some (me_bin os_add (me_var 3) me_int)) mo_none)) ma_nil))))))))))
end
end PL
/-! printed by gen.py: above is worth its evaluator -/
namespace PL
open PySem PySem.Spec PyProof.Rows L2
section
variable {P : Program} {w : World} {K : PySem.W.Frag} {mg : Str → Option Value} {base : Heap}
theorem has_above (B : Blt mg) (d : DefOf K mg "above" s_above ["tree", "path"])   : Has P w K mg base "above" ["tree", "path"] 1 m_above :=
  has_of (k := 0) (N := N_above) d sc_above fun cdv A outer s H E hr =>
  (mb_cons (ms_set (i := 2) sc_above.nd (me_loc ma_nil))
    (mb_cons (ms_set (i := 3) sc_above.nd (me_var 0))
    (mb_cons (ms_for PassesOwn.never rfl (mi_val (me_var 1)) (mg_one (i := 4) sc_above.nd)
    (mb_cons (ms_if (PW.pt (mw_or (mt_val (me_callB cs_isi rfl B.b_isinstance bb_isinstance (ma_cons (me_var 3) (ma_cons (me_bval (v := .ty "str") rfl B.b_str bt_str rfl) ma_nil)))) (mw_or1 (mt_not (mt_chain (os_le hr.units) (os_lt hr.units) me_int (me_var 4) (me_callB cs_len rfl B.b_len bb_len (ma_cons (me_ix is_ix (me_var 3) me_int) ma_nil))))))) (mb_one ms_stuck) mb_nil)
    (mb_cons (ms_expr (me_bm mts_append PySem.F.plainAttrs_list PySem.F.slot_list_append PySem.F.type_list_append (me_var 2) (ma_cons (me_tup (ma_cons (me_ix is_ix (me_var 3) me_int) (ma_cons (me_var 4) ma_nil))) ma_nil)))
    (mb_one (ms_set (i := 3) sc_above.nd (me_ix is_ix (me_ix is_ix (me_var 3) me_int) (me_var 4)))))))
    (mb_one (ms_ret (me_callTy cs_tuple rfl B.b_tuple bt_tuple (ma_cons (me_var 2) ma_nil)))))))
end
end PL
/-! printed by gen.py: paths_of is worth its evaluator -/
namespace PL
open PySem PySem.Spec PyProof.Rows L2
section
variable {P : Program} {w : World} {K : PySem.W.Frag} {mg : Str → Option Value} {base : Heap}
theorem has_paths_of (B : Blt mg) (d : DefOf K mg "paths_of" s_paths_of ["tree", "name"])   : Has P w K mg base "paths_of" ["tree", "name"] 61 m_paths_of :=
  has_rec (k := 1) (n := 60) (N := N_paths_of) d sc_paths_of (by decide) fun n HS cdv A outer s H E hr =>
  (mb_cons (ms_if (mt_val (me_callB cs_isi rfl B.b_isinstance bb_isinstance (ma_cons (me_var 0) (ma_cons (me_bval (v := .ty "str") rfl B.b_str bt_str rfl) ma_nil)))) (mb_one (ms_ret (me_lst ma_nil))) mb_nil)
    (mb_cons (ms_set (i := 2) sc_paths_of.nd (me_loc ma_nil))
    (mb_cons (ms_if (mt_cmp (os_eq hr.units) (me_ix is_ix (me_var 0) me_int) (me_var 1)) (mb_one (ms_expr (me_bm mts_append PySem.F.plainAttrs_list PySem.F.slot_list_append PySem.F.type_list_append (me_var 2) (ma_cons (me_tup ma_nil) ma_nil)))) mb_nil)
    (mb_cons (ms_for PassesOwn.never rfl (mi_enum rfl B.b_enumerate (me_ix is_ix (me_var 0) me_int)) (mg_tup rfl (mgs_cons (i := 3) sc_paths_of.nd (mgs_cons (i := 4) sc_paths_of.nd mgs_nil)))
    (mb_one (ms_for PassesOwn.never rfl (mi_val (me_callH HS hr (ma_cons (me_var 4) (ma_cons (me_var 1) ma_nil)))) (mg_one (i := 5) sc_paths_of.nd)
    (mb_one (ms_expr (me_bm mts_append PySem.F.plainAttrs_list PySem.F.slot_list_append PySem.F.type_list_append (me_var 2) (ma_cons (me_bin os_add (me_tup (ma_cons (me_var 3) ma_nil)) (me_var 5)) ma_nil)))))))
    (mb_one (ms_ret (me_var 2)))))))
end
end PL
/-! printed by gen.py: parted is worth its evaluator -/
namespace PL
open PySem PySem.Spec PyProof.Rows L2
section
variable {P : Program} {w : World} {K : PySem.W.Frag} {mg : Str → Option Value} {base : Heap}
theorem has_parted (B : Blt mg) (d : DefOf K mg "parted" s_parted ["game", "name", "paths", "new"])  {C_BadPath : Addr} (x_BadPath : X0 K mg "BadPath" C_BadPath) {C_NamesMeet : Addr} (x_NamesMeet : X0 K mg "NamesMeet" C_NamesMeet) (h_row_of : Has P w K mg base "row_of" ["game", "name"] 1 m_row_of) (h_with_row : Has P w K mg base "with_row" ["sets", "row"] 1 m_with_row) (h_node_at : Has P w K mg base "node_at" ["tree", "path"] 1 m_node_at) (h_replaced : Has P w K mg base "replaced" ["tree", "path", "node"] 61 m_replaced) (h_paths_of : Has P w K mg base "paths_of" ["tree", "name"] 61 m_paths_of) : HasX P w K mg base "parted" ["game", "name", "paths", "new"] 62 m_parted :=
  hasX_of (k := 61) (N := N_parted) d sc_parted fun cdv A outer s H E hr =>
  (mb_cons (ms_set (i := 4) sc_parted.nd (me_callH h_row_of (hr.mono (by decide)) (ma_cons (me_var 0) (ma_cons (me_var 1) ma_nil))))
    (mb_cons (ms_if (mt_cmp os_isNot (me_callH h_row_of (hr.mono (by decide)) (ma_cons (me_var 0) (ma_cons (me_var 3) ma_nil))) me_non) (mb_one (ms_raise0 rfl (takes_of rfl rfl rfl rfl) x_NamesMeet (ma_cons me_str ma_nil))) mb_nil)
    (mb_cons (ms_set (i := 5) sc_parted.nd (me_callH h_paths_of (hr.mono (by decide)) (ma_cons (me_ix is_ix (me_var 0) me_int) (ma_cons (me_var 1) ma_nil))))
    (mb_cons (ms_for (passes_of rfl) rfl (mi_val (me_var 2)) (mg_one (i := 6) sc_parted.nd)
    (mb_one (ms_if (mt_cmp (os_notIn hr.units) (me_var 6) (me_var 5)) (mb_one (ms_raise0 rfl (takes_of rfl rfl rfl rfl) x_BadPath (ma_cons me_str ma_nil))) mb_nil)))
    (mb_cons (ms_set (i := 7) sc_parted.nd (me_ix is_ix (me_var 0) me_int))
    (mb_cons (ms_for (passes_of rfl) rfl (mi_val (me_var 2)) (mg_one (i := 6) sc_parted.nd)
    (mb_one (ms_set (i := 7) sc_parted.nd (me_callH h_replaced (hr.mono (by decide)) (ma_cons (me_var 7) (ma_cons (me_var 6) (ma_cons (me_tup (ma_cons (me_var 3) (ma_cons (me_ix is_ix (me_callH h_node_at (hr.mono (by decide)) (ma_cons (me_var 7) (ma_cons (me_var 6) ma_nil))) me_int) ma_nil))) ma_nil)))))))
    (mb_one (ms_ret (me_tup (ma_cons (me_callH h_with_row (hr.mono (by decide)) (ma_cons (me_ix is_ix (me_var 0) me_int) (ma_cons (me_tup (ma_cons (me_var 3) (ma_cons (me_ix is_ix (me_var 4) me_int) (ma_cons (me_ix is_ix (me_var 4) me_int) ma_nil)))) ma_nil))) (ma_cons (me_var 7) ma_nil)))))))))))
end
end PL
/-! printed by gen.py: _renamed_nodes is worth its evaluator -/
namespace PL
open PySem PySem.Spec PyProof.Rows L2
section
variable {P : Program} {w : World} {K : PySem.W.Frag} {mg : Str → Option Value} {base : Heap}
theorem has_renamed_nodes (B : Blt mg) (d : DefOf K mg "_renamed_nodes" s_renamed_nodes ["tree", "other", "name"])   : Has P w K mg base "_renamed_nodes" ["tree", "other", "name"] 61 m_renamed_nodes :=
  has_rec (k := 1) (n := 60) (N := N_renamed_nodes) d sc_renamed_nodes (by decide) fun n HS cdv A outer s H E hr =>
  (mb_cons (ms_if (mt_val (me_callB cs_isi rfl B.b_isinstance bb_isinstance (ma_cons (me_var 0) (ma_cons (me_bval (v := .ty "str") rfl B.b_str bt_str rfl) ma_nil)))) (mb_one (ms_ret (me_var 0))) mb_nil)
    (mb_cons (ms_set (i := 3) sc_renamed_nodes.nd (me_callTy cs_tuple rfl B.b_tuple bt_tuple (ma_cons (me_compG false (own := [("child", 4)]) rfl sc_renamed_nodes.nd (mi_val (me_ix is_ix (me_var 0) me_int)) (blkOk_by (own := [("child", 4)]) (N := N_renamed_nodes) (sc := defScope s_renamed_nodes) (by decide +kernel)) (fun _ _ _ _ _ => (mg_one (i := 4) sc_renamed_nodes.nd)) (fun _ _ _ _ _ => mts_nil) (fun _ _ _ _ _ => (me_callH HS hr (ma_cons (me_var 4) (ma_cons (me_var 1) (ma_cons (me_var 2) ma_nil)))))) ma_nil)))
    (mb_cons (ms_if (mt_cmp (os_eq hr.units) (me_ix is_ix (me_var 0) me_int) (me_var 1)) (mb_one (ms_ret (me_tup (ma_cons (me_var 2) (ma_cons (me_var 3) ma_nil))))) mb_nil)
    (mb_one (ms_ret (me_tup (ma_cons (me_ix is_ix (me_var 0) me_int) (ma_cons (me_var 3) ma_nil))))))))
end
end PL
/-! printed by gen.py: _one_way_passes is worth its evaluator -/
namespace PL
open PySem PySem.Spec PyProof.Rows L2
section
variable {P : Program} {w : World} {K : PySem.W.Frag} {mg : Str → Option Value} {base : Heap}
theorem has_one_way_passes (B : Blt mg) (d : DefOf K mg "_one_way_passes" s_one_way_passes ["game", "name", "other"])  (h_above : Has P w K mg base "above" ["tree", "path"] 1 m_above) (h_paths_of : Has P w K mg base "paths_of" ["tree", "name"] 61 m_paths_of) : Has P w K mg base "_one_way_passes" ["game", "name", "other"] 62 m_one_way_passes :=
  has_of (k := 61) (N := N_one_way_passes) d sc_one_way_passes fun cdv A outer s H E hr =>
  (mb_cons (ms_for PassesOwn.never rfl (mi_val (me_tup (ma_cons (me_tup (ma_cons (me_var 1) (ma_cons (me_var 2) ma_nil))) (ma_cons (me_tup (ma_cons (me_var 2) (ma_cons (me_var 1) ma_nil))) ma_nil)))) (mg_tup rfl (mgs_cons (i := 3) sc_one_way_passes.nd (mgs_cons (i := 4) sc_one_way_passes.nd mgs_nil)))
    (mb_one (ms_for PassesOwn.never rfl (mi_val (me_callH h_paths_of (hr.mono (by decide)) (ma_cons (me_ix is_ix (me_var 0) me_int) (ma_cons (me_var 3) ma_nil)))) (mg_one (i := 5) sc_one_way_passes.nd)
    (mb_one (ms_if (mt_cmp (os_in hr.units) (me_var 4) (me_compG false (own := [("pair", 6)]) rfl sc_one_way_passes.nd (mi_val (me_callH h_above (hr.mono (by decide)) (ma_cons (me_ix is_ix (me_var 0) me_int) (ma_cons (me_var 5) ma_nil)))) (blkOk_by (own := [("pair", 6)]) (N := N_one_way_passes) (sc := defScope s_one_way_passes) (by decide +kernel)) (fun _ _ _ _ _ => (mg_one (i := 6) sc_one_way_passes.nd)) (fun _ _ _ _ _ => mts_nil) (fun _ _ _ _ _ => (me_ix is_ix (me_var 6) me_int)))) (mb_one (ms_ret me_bl)) mb_nil)))))
    (mb_one (ms_ret me_bl)))
end
end PL
/-! printed by gen.py: mingled is worth its evaluator -/
namespace PL
open PySem PySem.Spec PyProof.Rows L2
section
variable {P : Program} {w : World} {K : PySem.W.Frag} {mg : Str → Option Value} {base : Heap}
theorem has_mingled (B : Blt mg) (d : DefOf K mg "mingled" s_mingled ["game", "name", "other"])  {C_BadStep : Addr} (x_BadStep : X0 K mg "BadStep" C_BadStep) (h_row_of : Has P w K mg base "row_of" ["game", "name"] 1 m_row_of) (h_without_row : Has P w K mg base "without_row" ["sets", "name"] 1 m_without_row) (h_renamed_nodes : Has P w K mg base "_renamed_nodes" ["tree", "other", "name"] 61 m_renamed_nodes) (h_one_way_passes : Has P w K mg base "_one_way_passes" ["game", "name", "other"] 62 m_one_way_passes) : HasX P w K mg base "mingled" ["game", "name", "other"] 63 m_mingled :=
  hasX_of (k := 62) (N := N_mingled) d sc_mingled fun cdv A outer s H E hr =>
  (mb_cons (ms_set (i := 3) sc_mingled.nd (me_callH h_row_of (hr.mono (by decide)) (ma_cons (me_var 0) (ma_cons (me_var 1) ma_nil))))
    (mb_cons (ms_set (i := 4) sc_mingled.nd (me_callH h_row_of (hr.mono (by decide)) (ma_cons (me_var 0) (ma_cons (me_var 2) ma_nil))))
    (mb_cons (ms_if (PW.pt (mw_or (mt_cmp os_is (me_var 3) me_non) (mw_or (mt_cmp os_is (me_var 4) me_non) (mw_or (mt_cmp (os_eq hr.units) (me_var 1) (me_var 2)) (mw_or1 (mt_cmp (os_ne hr.units) (me_sl ss_sl (me_var 3) (mo_some me_int) mo_none) (me_sl ss_sl (me_var 4) (mo_some me_int) mo_none))))))) (mb_one (ms_raise0 rfl (takes_of rfl rfl rfl rfl) x_BadStep (ma_cons me_str ma_nil))) mb_nil)
    (mb_cons (ms_if (mt_val (me_callH h_one_way_passes (hr.mono (by decide)) (ma_cons (me_var 0) (ma_cons (me_var 1) (ma_cons (me_var 2) ma_nil))))) (mb_one (ms_raise0 rfl (takes_of rfl rfl rfl rfl) x_BadStep (ma_cons me_str ma_nil))) mb_nil)
    (mb_one (ms_ret (me_tup (ma_cons (me_callH h_without_row (hr.mono (by decide)) (ma_cons (me_ix is_ix (me_var 0) me_int) (ma_cons (me_var 2) ma_nil))) (ma_cons (me_callH h_renamed_nodes (hr.mono (by decide)) (ma_cons (me_ix is_ix (me_var 0) me_int) (ma_cons (me_var 2) (ma_cons (me_var 1) ma_nil)))) ma_nil)))))))))
end
end PL
/-! printed by gen.py: set_pairs is worth its evaluator -/
namespace PL
open PySem PySem.Spec PyProof.Rows L2
section
variable {P : Program} {w : World} {K : PySem.W.Frag} {mg : Str → Option Value} {base : Heap}
theorem has_set_pairs (B : Blt mg) (d : DefOf K mg "set_pairs" s_set_pairs ["game"])  (h_one_way_passes : Has P w K mg base "_one_way_passes" ["game", "name", "other"] 62 m_one_way_passes) : Has P w K mg base "set_pairs" ["game"] 63 m_set_pairs :=
  has_of (k := 62) (N := N_set_pairs) d sc_set_pairs fun cdv A outer s H E hr =>
  (mb_cons (ms_set (i := 1) sc_set_pairs.nd (me_loc ma_nil))
    (mb_cons (ms_for PassesOwn.never rfl (mi_val (me_ix is_ix (me_var 0) me_int)) (mg_one (i := 2) sc_set_pairs.nd)
    (mb_one (ms_for PassesOwn.never rfl (mi_val (me_ix is_ix (me_var 0) me_int)) (mg_one (i := 3) sc_set_pairs.nd)
    (mb_one (ms_if (PW.pt (mw_and (mt_cmp (os_lt hr.units) (me_ix is_ix (me_var 2) me_int) (me_ix is_ix (me_var 3) me_int)) (mw_and (mt_cmp (os_eq hr.units) (me_sl ss_sl (me_var 2) (mo_some me_int) mo_none) (me_sl ss_sl (me_var 3) (mo_some me_int) mo_none)) (mw_and1 (mt_not (mt_val (me_callH h_one_way_passes (hr.mono (by decide)) (ma_cons (me_var 0) (ma_cons (me_ix is_ix (me_var 2) me_int) (ma_cons (me_ix is_ix (me_var 3) me_int) ma_nil)))))))))) (mb_one (ms_expr (me_bm mts_append PySem.F.plainAttrs_list PySem.F.slot_list_append PySem.F.type_list_append (me_var 1) (ma_cons (me_tup (ma_cons (me_ix is_ix (me_var 2) me_int) (ma_cons (me_ix is_ix (me_var 3) me_int) ma_nil))) ma_nil)))) mb_nil)))))
    (mb_one (ms_ret (me_var 1)))))
end
end PL
/-! printed by gen.py: _law_source is worth its evaluator -/
namespace PL
open PySem PySem.Spec PyProof.Rows L2
section
variable {P : Program} {w : World} {K : PySem.W.Frag} {mg : Str → Option Value} {base : Heap}
theorem has_law_source (B : Blt mg) (d : DefOf K mg "_law_source" s_law_source ["script"])   : Has P w K mg base "_law_source" ["script"] 1 m_law_source :=
  has_of (k := 0) (N := N_law_source) d sc_law_source fun cdv A outer s H E hr =>
  (mb_cons (ms_set (i := 1) sc_law_source.nd me_int)
    (mb_cons (ms_for PassesOwn.never rfl (mi_val (me_var 0)) (mg_one (i := 2) sc_law_source.nd)
    (mb_one (ms_set (i := 1) sc_law_source.nd (me_bin os_mod (me_callTy cs_int rfl B.b_int bt_int (ma_cons (me_bin os_add (me_bin os_add (me_bin os_mul (me_var 1) me_int) (me_bin os_mul (me_var 2) me_int)) me_int) ma_nil)) me_int))))
    (mb_one (ms_ret (me_loc (ma_cons me_int (ma_cons me_int (ma_cons (me_var 1) ma_nil))))))))
end
end PL
/-! printed by gen.py: _law_draw is worth its evaluator -/
namespace PL
open PySem PySem.Spec PyProof.Rows L2
section
variable {P : Program} {w : World} {K : PySem.W.Frag} {mg : Str → Option Value} {base : Heap}
theorem has_law_draw (B : Blt mg) (d : DefOf K mg "_law_draw" s_law_draw ["script", "source", "limit"])   : Has P w K mg base "_law_draw" ["script", "source", "limit"] 1 m_law_draw :=
  has_of (k := 0) (N := N_law_draw) d sc_law_draw fun cdv A outer s H E hr =>
  (mb_cons (ms_if (PW.pt (mw_and (mt_cmp (os_eq hr.units) (me_ix is_ix (me_var 1) me_int) me_int) (mw_and1 (mt_cmp (os_lt hr.units) (me_ix is_ix (me_var 1) me_int) (me_callB cs_len rfl B.b_len bb_len (ma_cons (me_var 0) ma_nil)))))) (mb_cons (ms_set (i := 3) sc_law_draw.nd (me_callB cs_abs rfl B.b_abs bb_abs (ma_cons (me_ix is_ix (me_var 0) (me_ix is_ix (me_var 1) me_int)) ma_nil)))
    (mb_cons (ms_sub sts_set (me_var 1) me_int (me_bin os_add (me_ix is_ix (me_var 1) me_int) me_int))
    (mb_cons (ms_if (mt_cmp (os_lt hr.units) (me_var 3) (me_bin os_pow me_int me_int)) (mb_cons (ms_set (i := 3) sc_law_draw.nd (me_bin os_mod (me_callTy cs_int rfl B.b_int bt_int (ma_cons (me_bin os_add (me_bin os_add (me_bin os_mul (me_var 3) me_int) (me_bin os_mul (me_ix is_ix (me_var 1) me_int) me_int)) (me_ix is_ix (me_var 1) me_int)) ma_nil)) me_int))
    (mb_one (ms_set (i := 3) sc_law_draw.nd (me_bin os_mod (me_callTy cs_int rfl B.b_int bt_int (ma_cons (me_bin os_add (me_bin os_add (me_bin os_mul (me_var 3) (me_var 3)) (me_bin os_mul (me_var 3) me_int)) (me_ix is_ix (me_var 1) me_int)) ma_nil)) me_int)))) mb_nil)
    (mb_one (ms_sub sts_set (me_var 1) me_int (me_var 3)))))) mb_nil)
    (mb_cons (ms_if (mt_cmp (os_gt hr.units) (me_ix is_ix (me_var 1) me_int) me_int) (mb_cons (ms_set (i := 4) sc_law_draw.nd (me_bin os_mod (me_callTy cs_int rfl B.b_int bt_int (ma_cons (me_ix is_ix (me_var 1) me_int) ma_nil)) (me_var 2)))
    (mb_cons (ms_sub sts_set (me_var 1) me_int (me_bin os_fdiv (me_ix is_ix (me_var 1) me_int) (me_var 2)))
    (mb_one (ms_ret (me_var 4))))) mb_nil)
    (mb_cons (ms_sub sts_set (me_var 1) me_int (me_bin os_mod (me_callTy cs_int rfl B.b_int bt_int (ma_cons (me_bin os_add (me_bin os_mul (me_ix is_ix (me_var 1) me_int) me_int) me_int) ma_nil)) me_int))
    (mb_one (ms_ret (me_bin os_mod (me_callTy cs_int rfl B.b_int bt_int (ma_cons (me_bin os_fdiv (me_ix is_ix (me_var 1) me_int) me_int) ma_nil)) (me_var 2)))))))
end
end PL
/-! printed by gen.py: _law_name is worth its evaluator -/
namespace PL
open PySem PySem.Spec PyProof.Rows L2
section
variable {P : Program} {w : World} {K : PySem.W.Frag} {mg : Str → Option Value} {base : Heap}
theorem has_law_name (B : Blt mg) (d : DefOf K mg "_law_name" s_law_name ["script", "source", "used"])  (h_law_draw : Has P w K mg base "_law_draw" ["script", "source", "limit"] 1 m_law_draw) : Has P w K mg base "_law_name" ["script", "source", "used"] 2 m_law_name :=
  has_of (k := 1) (N := N_law_name) d sc_law_name fun cdv A outer s H E hr =>
  (mb_cons (ms_set (i := 3) sc_law_name.nd me_str)
    (mb_cons (ms_set (i := 4) sc_law_name.nd (me_bin os_add (me_var 3) me_str))
    (mb_cons (ms_set (i := 5) sc_law_name.nd (me_ix is_ix (me_var 3) (me_callH h_law_draw (hr.mono (by decide)) (ma_cons (me_var 0) (ma_cons (me_var 1) (ma_cons me_int ma_nil))))))
    (mb_cons (ms_for PassesOwn.never rfl (mi_range1 rfl B.b_range (me_callH h_law_draw (hr.mono (by decide)) (ma_cons (me_var 0) (ma_cons (me_var 1) (ma_cons me_int ma_nil))))) (mg_one (i := 6) sc_law_name.nd)
    (mb_one (ms_set (i := 5) sc_law_name.nd (me_bin os_add (me_var 5) (me_ix is_ix (me_var 4) (me_callH h_law_draw (hr.mono (by decide)) (ma_cons (me_var 0) (ma_cons (me_var 1) (ma_cons me_int ma_nil)))))))))
    (mb_cons (ms_if (mt_cmp (os_eq hr.units) (me_callH h_law_draw (hr.mono (by decide)) (ma_cons (me_var 0) (ma_cons (me_var 1) (ma_cons me_int ma_nil)))) me_int) (mb_one (ms_set (i := 5) sc_law_name.nd (me_ix is_ix (me_lst (ma_cons me_str (ma_cons me_str (ma_cons me_str (ma_cons me_str (ma_cons me_str (ma_cons me_str ma_nil))))))) (me_callH h_law_draw (hr.mono (by decide)) (ma_cons (me_var 0) (ma_cons (me_var 1) (ma_cons me_int ma_nil))))))) mb_nil)
    (mb_cons (ms_set (i := 7) sc_law_name.nd (me_var 5))
    (mb_cons (ms_for PassesOwn.never rfl (mi_range1 rfl B.b_range (me_bin os_add (me_callB cs_len rfl B.b_len bb_len (ma_cons (me_var 2) ma_nil)) me_int)) (mg_one (i := 6) sc_law_name.nd)
    (mb_one (ms_if (mt_cmp (os_in hr.units) (me_var 5) (me_var 2)) (mb_one (ms_set (i := 5) sc_law_name.nd (me_bin os_add (me_var 7) (me_callTy cs_str rfl B.b_str bt_str (ma_cons (me_var 6) ma_nil))))) mb_nil)))
    (mb_one (ms_ret (me_var 5))))))))))
end
end PL
/-! printed by gen.py: _law_gcd is worth its evaluator -/
namespace PL
open PySem PySem.Spec PyProof.Rows L2
section
variable {P : Program} {w : World} {K : PySem.W.Frag} {mg : Str → Option Value} {base : Heap}
theorem has_law_gcd (B : Blt mg) (d : DefOf K mg "_law_gcd" s_law_gcd ["a", "b"])   : Has P w K mg base "_law_gcd" ["a", "b"] 1 m_law_gcd :=
  has_of (k := 0) (N := N_law_gcd) d sc_law_gcd fun cdv A outer s H E hr =>
  (mb_cons (ms_for PassesOwn.never rfl (mi_range1 rfl B.b_range (me_bin os_add (me_bin os_mul me_int (me_bits (me_callTy cs_int rfl B.b_int bt_int (ma_cons (me_var 1) ma_nil)))) me_int)) (mg_one (i := 2) sc_law_gcd.nd)
    (mb_cons (ms_if (mt_cmp (os_eq hr.units) (me_var 1) me_int) (mb_one (ms_ret (me_var 0))) mb_nil)
    (mb_one (ms_par (i := 0) (j := 1) rfl sc_law_gcd.nd (by decide) (ma_cons (me_var 1) (ma_cons (me_bin os_mod (me_callTy cs_int rfl B.b_int bt_int (ma_cons (me_var 0) ma_nil)) (me_var 1)) ma_nil))))))
    (mb_one (ms_ret (me_var 0))))
end
end PL
/-! printed by gen.py: _law_reduced is worth its evaluator -/
namespace PL
open PySem PySem.Spec PyProof.Rows L2
section
variable {P : Program} {w : World} {K : PySem.W.Frag} {mg : Str → Option Value} {base : Heap}
theorem has_law_reduced (B : Blt mg) (d : DefOf K mg "_law_reduced" s_law_reduced ["weights"])  (h_law_gcd : Has P w K mg base "_law_gcd" ["a", "b"] 1 m_law_gcd) : Has P w K mg base "_law_reduced" ["weights"] 2 m_law_reduced :=
  has_of (k := 1) (N := N_law_reduced) d sc_law_reduced fun cdv A outer s H E hr =>
  (mb_cons (ms_set (i := 1) sc_law_reduced.nd me_int)
    (mb_cons (ms_for PassesOwn.never rfl (mi_val (me_var 0)) (mg_one (i := 2) sc_law_reduced.nd)
    (mb_one (ms_set (i := 1) sc_law_reduced.nd (me_callH h_law_gcd (hr.mono (by decide)) (ma_cons (me_var 2) (ma_cons (me_var 1) ma_nil))))))
    (mb_cons (ms_if (mt_cmp (os_eq hr.units) (me_var 1) me_int) (mb_one (ms_ret (me_callTy cs_tuple rfl B.b_tuple bt_tuple (ma_cons (me_var 0) ma_nil)))) mb_nil)
    (mb_one (ms_ret (me_callTy cs_tuple rfl B.b_tuple bt_tuple (ma_cons (me_compG false (own := [("weight", 2)]) rfl sc_law_reduced.nd (mi_val (me_var 0)) (blkOk_by (own := [("weight", 2)]) (N := N_law_reduced) (sc := defScope s_law_reduced) (by decide +kernel)) (fun _ _ _ _ _ => (mg_one (i := 2) sc_law_reduced.nd)) (fun _ _ _ _ _ => mts_nil) (fun _ _ _ _ _ => (me_bin os_fdiv (me_var 2) (me_var 1)))) ma_nil)))))))
end
end PL
/-! printed by gen.py: _law_tree is worth its evaluator -/
namespace PL
open PySem PySem.Spec PyProof.Rows L2
section
variable {P : Program} {w : World} {K : PySem.W.Frag} {mg : Str → Option Value} {base : Heap}
theorem has_law_tree (B : Blt mg) (d : DefOf K mg "_law_tree" s_law_tree ["script", "source", "free", "outcomes", "room", "wish"])  (h_law_draw : Has P w K mg base "_law_draw" ["script", "source", "limit"] 1 m_law_draw) : Has P w K mg base "_law_tree" ["script", "source", "free", "outcomes", "room", "wish"] 62 m_law_tree :=
  has_rec (k := 2) (n := 60) (N := N_law_tree) d sc_law_tree (by decide) fun n HS cdv A outer s H E hr =>
  (mb_cons (ms_sub sts_set (me_var 4) me_int (me_bin os_sub (me_ix is_ix (me_var 4) me_int) me_int))
    (mb_cons (ms_set (i := 6) sc_law_tree.nd (me_and (me_cmp (os_eq hr.units) (me_callH h_law_draw (hr.mono (by omega)) (ma_cons (me_var 0) (ma_cons (me_var 1) (ma_cons me_int ma_nil)))) me_int) (me_one (me_cmp os_is (me_var 5) me_non))))
    (mb_cons (ms_if (PW.pt (mw_or (mt_cmp (os_eq hr.units) (me_callB cs_len rfl B.b_len bb_len (ma_cons (me_var 2) ma_nil)) me_int) (mw_or (mt_cmp (os_lt hr.units) (me_ix is_ix (me_var 4) me_int) me_int) (mw_or1 (mt_val (me_var 6)))))) (mb_one (ms_ret (me_ix is_ix (me_var 3) (me_callH h_law_draw (hr.mono (by omega)) (ma_cons (me_var 0) (ma_cons (me_var 1) (ma_cons (me_callB cs_len rfl B.b_len bb_len (ma_cons (me_var 3) ma_nil)) ma_nil))))))) mb_nil)
    (mb_cons (ms_set (i := 7) sc_law_tree.nd (me_ix is_ix (me_var 2) (me_callH h_law_draw (hr.mono (by omega)) (ma_cons (me_var 0) (ma_cons (me_var 1) (ma_cons (me_callB cs_len rfl B.b_len bb_len (ma_cons (me_var 2) ma_nil)) ma_nil))))))
    (mb_cons (ms_if (mt_cmp os_isNot (me_var 5) me_non) (mb_one (ms_set (i := 7) sc_law_tree.nd (me_var 5))) mb_nil)
    (mb_cons (ms_setCompG false (i := 8) (own := [("other", 13)]) rfl sc_law_tree.nd (mi_val (me_var 2)) (blkOk_by (own := [("other", 13)]) (N := N_law_tree) (sc := defScope s_law_tree) (by decide +kernel)) (fun _ _ _ _ _ => (mg_one (i := 13) sc_law_tree.nd)) (fun _ _ _ _ _ => (mts_one (mt_cmp (os_ne hr.units) (me_ix is_ix (me_var 13) me_int) (me_ix is_ix (me_var 7) me_int)))) (fun _ _ _ _ _ => (me_var 13)))
    (mb_cons (ms_set (i := 9) sc_law_tree.nd (me_callH h_law_draw (hr.mono (by omega)) (ma_cons (me_var 0) (ma_cons (me_var 1) (ma_cons me_int ma_nil)))))
    (mb_cons (ms_set (i := 10) sc_law_tree.nd me_non)
    (mb_cons (ms_if (PW.pt (mw_and (mt_cmp (os_gt hr.units) (me_var 9) me_int) (mw_and1 (mt_cmp (os_gt hr.units) (me_callB cs_len rfl B.b_len bb_len (ma_cons (me_var 8) ma_nil)) me_int)))) (mb_one (ms_set (i := 10) sc_law_tree.nd (me_ix is_ix (me_var 8) (me_callH h_law_draw (hr.mono (by omega)) (ma_cons (me_var 0) (ma_cons (me_var 1) (ma_cons (me_callB cs_len rfl B.b_len bb_len (ma_cons (me_var 8) ma_nil)) ma_nil))))))) mb_nil)
    (mb_cons (ms_set (i := 11) sc_law_tree.nd (me_loc ma_nil))
    (mb_cons (ms_for PassesOwn.never rfl (mi_range1 rfl B.b_range (me_callB cs_len rfl B.b_len bb_len (ma_cons (me_ix is_ix (me_var 7) me_int) ma_nil))) (mg_one (i := 12) sc_law_tree.nd)
    (mb_one (ms_if (PW.pt (mw_and (mt_cmp (os_gt hr.units) (me_var 12) me_int) (mw_and (mt_cmp os_is (me_var 5) me_non) (mw_and1 (PW.pt (mw_or (mt_cmp (os_eq hr.units) (me_var 9) me_int) (mw_or1 (PW.pt (mw_and (mt_cmp (os_eq hr.units) (me_var 9) me_int) (mw_and1 (mt_cmp (os_eq hr.units) (me_callH h_law_draw (hr.mono (by omega)) (ma_cons (me_var 0) (ma_cons (me_var 1) (ma_cons me_int ma_nil)))) me_int))))))))))) (mb_one (ms_expr (me_bm mts_append PySem.F.plainAttrs_list PySem.F.slot_list_append PySem.F.type_list_append (me_var 11) (ma_cons (me_ix is_ix (me_var 11) (me_bin os_sub (me_var 12) me_int)) ma_nil)))) (mb_one (ms_expr (me_bm mts_append PySem.F.plainAttrs_list PySem.F.slot_list_append PySem.F.type_list_append (me_var 11) (ma_cons (me_callH HS hr (ma_cons (me_var 0) (ma_cons (me_var 1) (ma_cons (me_var 8) (ma_cons (me_var 3) (ma_cons (me_var 4) (ma_cons (me_var 10) ma_nil))))))) ma_nil)))))))
    (mb_one (ms_ret (me_tup (ma_cons (me_ix is_ix (me_var 7) me_int) (ma_cons (me_callTy cs_tuple rfl B.b_tuple bt_tuple (ma_cons (me_var 11) ma_nil)) ma_nil))))))))))))))))
end
end PL
/-! printed by gen.py: _law_row is worth its evaluator -/
namespace PL
open PySem PySem.Spec PyProof.Rows L2
section
variable {P : Program} {w : World} {K : PySem.W.Frag} {mg : Str → Option Value} {base : Heap}
theorem has_law_row (B : Blt mg) (d : DefOf K mg "_law_row" s_law_row ["rows", "name"])   : Has P w K mg base "_law_row" ["rows", "name"] 1 m_law_row :=
  has_of (k := 0) (N := N_law_row) d sc_law_row fun cdv A outer s H E hr =>
  (mb_cons (ms_for PassesOwn.never rfl (mi_val (me_var 0)) (mg_one (i := 2) sc_law_row.nd)
    (mb_one (ms_if (mt_cmp (os_eq hr.units) (me_ix is_ix (me_var 2) me_int) (me_var 1)) (mb_one (ms_ret (me_var 2))) mb_nil)))
    (mb_one (ms_ret me_non)))
end
end PL
/-! printed by gen.py: _law_nodes is worth its evaluator -/
namespace PL
open PySem PySem.Spec PyProof.Rows L2
section
variable {P : Program} {w : World} {K : PySem.W.Frag} {mg : Str → Option Value} {base : Heap}
theorem has_law_nodes (B : Blt mg) (d : DefOf K mg "_law_nodes" s_law_nodes ["tree", "path", "pairs"])   : Has P w K mg base "_law_nodes" ["tree", "path", "pairs"] 61 m_law_nodes :=
  has_rec (k := 1) (n := 60) (N := N_law_nodes) d sc_law_nodes (by decide) fun n HS cdv A outer s H E hr =>
  (mb_cons (ms_if (mt_val (me_callB cs_isi rfl B.b_isinstance bb_isinstance (ma_cons (me_var 0) (ma_cons (me_bval (v := .ty "str") rfl B.b_str bt_str rfl) ma_nil)))) (mb_one (ms_ret (me_lst ma_nil))) mb_nil)
    (mb_cons (ms_set (i := 3) sc_law_nodes.nd (me_lst (ma_cons (me_tup (ma_cons (me_var 1) (ma_cons (me_var 0) (ma_cons (me_var 2) ma_nil)))) ma_nil)))
    (mb_cons (ms_for PassesOwn.never rfl (mi_range1 rfl B.b_range (me_callB cs_len rfl B.b_len bb_len (ma_cons (me_ix is_ix (me_var 0) me_int) ma_nil))) (mg_one (i := 4) sc_law_nodes.nd)
    (mb_one (ms_set (i := 3) sc_law_nodes.nd (me_bin os_add (me_var 3) (me_callH HS hr (ma_cons (me_ix is_ix (me_ix is_ix (me_var 0) me_int) (me_var 4)) (ma_cons (me_bin os_add (me_var 1) (me_tup (ma_cons (me_var 4) ma_nil))) (ma_cons (me_bin os_add (me_var 2) (me_tup (ma_cons (me_tup (ma_cons (me_ix is_ix (me_var 0) me_int) (ma_cons (me_var 4) ma_nil))) ma_nil))) ma_nil))))))))
    (mb_one (ms_ret (me_var 3))))))
end
end PL
/-! printed by gen.py: _law_moved is worth its evaluator -/
namespace PL
open PySem PySem.Spec PyProof.Rows L2
section
variable {P : Program} {w : World} {K : PySem.W.Frag} {mg : Str → Option Value} {base : Heap}
theorem has_law_moved (B : Blt mg) (d : DefOf K mg "_law_moved" s_law_moved ["tree", "name", "order", "new"])   : Has P w K mg base "_law_moved" ["tree", "name", "order", "new"] 61 m_law_moved :=
  has_rec (k := 1) (n := 60) (N := N_law_moved) d sc_law_moved (by decide) fun n HS cdv A outer s H E hr =>
  (mb_cons (ms_if (mt_val (me_callB cs_isi rfl B.b_isinstance bb_isinstance (ma_cons (me_var 0) (ma_cons (me_bval (v := .ty "str") rfl B.b_str bt_str rfl) ma_nil)))) (mb_one (ms_ret (me_var 0))) mb_nil)
    (mb_cons (ms_set (i := 4) sc_law_moved.nd (me_compG false (own := [("child", 5)]) rfl sc_law_moved.nd (mi_val (me_ix is_ix (me_var 0) me_int)) (blkOk_by (own := [("child", 5)]) (N := N_law_moved) (sc := defScope s_law_moved) (by decide +kernel)) (fun _ _ _ _ _ => (mg_one (i := 5) sc_law_moved.nd)) (fun _ _ _ _ _ => mts_nil) (fun _ _ _ _ _ => (me_callH HS hr (ma_cons (me_var 5) (ma_cons (me_var 1) (ma_cons (me_var 2) (ma_cons (me_var 3) ma_nil))))))))
    (mb_cons (ms_if (mt_cmp (os_ne hr.units) (me_ix is_ix (me_var 0) me_int) (me_var 1)) (mb_one (ms_ret (me_tup (ma_cons (me_ix is_ix (me_var 0) me_int) (ma_cons (me_callTy cs_tuple rfl B.b_tuple bt_tuple (ma_cons (me_var 4) ma_nil)) ma_nil))))) mb_nil)
    (mb_cons (ms_if (mt_cmp (os_gt hr.units) (me_callB cs_len rfl B.b_len bb_len (ma_cons (me_var 2) ma_nil)) me_int) (mb_one (ms_set (i := 4) sc_law_moved.nd (me_compG false (own := [("move", 6)]) rfl sc_law_moved.nd (mi_val (me_var 2)) (blkOk_by (own := [("move", 6)]) (N := N_law_moved) (sc := defScope s_law_moved) (by decide +kernel)) (fun _ _ _ _ _ => (mg_one (i := 6) sc_law_moved.nd)) (fun _ _ _ _ _ => mts_nil) (fun _ _ _ _ _ => (me_ix is_ix (me_var 4) (me_var 6)))))) mb_nil)
    (mb_one (ms_ret (me_tup (ma_cons (me_var 3) (ma_cons (me_callTy cs_tuple rfl B.b_tuple bt_tuple (ma_cons (me_var 4) ma_nil)) ma_nil)))))))))
end
end PL
/-! printed by gen.py: _law_told is worth its evaluator -/
namespace PL
open PySem PySem.Spec PyProof.Rows L2
section
variable {P : Program} {w : World} {K : PySem.W.Frag} {mg : Str → Option Value} {base : Heap}
theorem has_law_told (B : Blt mg) (d : DefOf K mg "_law_told" s_law_told ["answer", "due"])   : Has P w K mg base "_law_told" ["answer", "due"] 61 m_law_told :=
  has_rec (k := 1) (n := 60) (N := N_law_told) d sc_law_told (by decide) fun n HS cdv A outer s H E hr =>
  (mb_cons (ms_if (mt_cmp os_is (me_var 1) me_non) (mb_one (ms_ret (me_cmp os_is (me_var 0) me_non))) mb_nil)
    (mb_cons (ms_if (PW.pt (mw_or (mt_val (me_callB cs_isi rfl B.b_isinstance bb_isinstance (ma_cons (me_var 1) (ma_cons (me_bval (v := .ty "bool") rfl B.b_bool bt_bool rfl) ma_nil)))) (mw_or1 (mt_val (me_callB cs_isi rfl B.b_isinstance bb_isinstance (ma_cons (me_var 0) (ma_cons (me_bval (v := .ty "bool") rfl B.b_bool bt_bool rfl) ma_nil))))))) (mb_one (ms_ret (me_and (me_callB cs_isi rfl B.b_isinstance bb_isinstance (ma_cons (me_var 1) (ma_cons (me_bval (v := .ty "bool") rfl B.b_bool bt_bool rfl) ma_nil))) (me_and (me_callB cs_isi rfl B.b_isinstance bb_isinstance (ma_cons (me_var 0) (ma_cons (me_bval (v := .ty "bool") rfl B.b_bool bt_bool rfl) ma_nil))) (me_one (me_cmp (os_eq hr.units) (me_var 0) (me_var 1))))))) mb_nil)
    (mb_cons (ms_if (mt_val (me_callB cs_isi rfl B.b_isinstance bb_isinstance (ma_cons (me_var 1) (ma_cons (me_bval (v := .ty "int") rfl B.b_int bt_int rfl) ma_nil)))) (mb_one (ms_ret (me_and (me_callB cs_isi rfl B.b_isinstance bb_isinstance (ma_cons (me_var 0) (ma_cons (me_bval (v := .ty "int") rfl B.b_int bt_int rfl) ma_nil))) (me_one (me_cmp (os_eq hr.units) (me_var 0) (me_var 1)))))) mb_nil)
    (mb_cons (ms_if (mt_val (me_callB cs_isi rfl B.b_isinstance bb_isinstance (ma_cons (me_var 1) (ma_cons (me_bval (v := .ty "str") rfl B.b_str bt_str rfl) ma_nil)))) (mb_one (ms_ret (me_and (me_callB cs_isi rfl B.b_isinstance bb_isinstance (ma_cons (me_var 0) (ma_cons (me_bval (v := .ty "str") rfl B.b_str bt_str rfl) ma_nil))) (me_one (me_cmp (os_eq hr.units) (me_var 0) (me_var 1)))))) mb_nil)
    (mb_cons (ms_if (mt_val (me_callB cs_isi rfl B.b_isinstance bb_isinstance (ma_cons (me_var 1) (ma_cons (me_bval (v := .ty "dict") rfl B.b_dict bt_dict rfl) ma_nil)))) (mb_cons (ms_if (PW.pt (mw_or (mt_not (mt_val (me_callB cs_isi rfl B.b_isinstance bb_isinstance (ma_cons (me_var 0) (ma_cons (me_bval (v := .ty "dict") rfl B.b_dict bt_dict rfl) ma_nil))))) (mw_or1 (mt_cmp (os_ne hr.units) (me_callB (cs_sortedA hr.units) rfl B.b_sorted bb_sorted (ma_cons (me_var 0) ma_nil)) (me_callB (cs_sortedA hr.units) rfl B.b_sorted bb_sorted (ma_cons (me_var 1) ma_nil)))))) (mb_one (ms_ret me_bl)) mb_nil)
    (mb_one (ms_ret (me_cmp (os_eq hr.units) (me_callB cs_len rfl B.b_len bb_len (ma_cons (me_compG false (own := [("name", 3)]) rfl sc_law_told.nd (mi_val (me_var 1)) (blkOk_by (own := [("name", 3)]) (N := N_law_told) (sc := defScope s_law_told) (by decide +kernel)) (fun _ _ _ _ _ => (mg_one (i := 3) sc_law_told.nd)) (fun _ _ _ _ _ => (mts_one (mt_not (mt_val (me_callH HS hr (ma_cons (me_ix is_ix (me_var 0) (me_var 3)) (ma_cons (me_ix is_ix (me_var 1) (me_var 3)) ma_nil))))))) (fun _ _ _ _ _ => (me_var 3))) ma_nil)) me_int)))) mb_nil)
    (mb_cons (ms_if (PW.pt (mw_or (mt_cmp (os_ne hr.units) (me_callB cs_isi rfl B.b_isinstance bb_isinstance (ma_cons (me_var 1) (ma_cons (me_bval (v := .ty "tuple") rfl B.b_tuple bt_tuple rfl) ma_nil))) (me_callB cs_isi rfl B.b_isinstance bb_isinstance (ma_cons (me_var 0) (ma_cons (me_bval (v := .ty "tuple") rfl B.b_tuple bt_tuple rfl) ma_nil)))) (mw_or1 (mt_cmp (os_ne hr.units) (me_callB cs_isi rfl B.b_isinstance bb_isinstance (ma_cons (me_var 1) (ma_cons (me_bval (v := .ty "list") rfl B.b_list bt_list rfl) ma_nil))) (me_callB cs_isi rfl B.b_isinstance bb_isinstance (ma_cons (me_var 0) (ma_cons (me_bval (v := .ty "list") rfl B.b_list bt_list rfl) ma_nil))))))) (mb_one (ms_ret me_bl)) mb_nil)
    (mb_cons (ms_if (PW.pt (mw_or (mt_not (mt_val (me_callB cs_isi rfl B.b_isinstance bb_isinstance (ma_cons (me_var 0) (ma_cons (me_tup (ma_cons (me_bval (v := .ty "tuple") rfl B.b_tuple bt_tuple rfl) (ma_cons (me_bval (v := .ty "list") rfl B.b_list bt_list rfl) ma_nil))) ma_nil))))) (mw_or1 (mt_cmp (os_ne hr.units) (me_callB cs_len rfl B.b_len bb_len (ma_cons (me_var 0) ma_nil)) (me_callB cs_len rfl B.b_len bb_len (ma_cons (me_var 1) ma_nil)))))) (mb_one (ms_ret me_bl)) mb_nil)
    (mb_cons (ms_for PassesOwn.never rfl (mi_range1 rfl B.b_range (me_callB cs_len rfl B.b_len bb_len (ma_cons (me_var 1) ma_nil))) (mg_one (i := 2) sc_law_told.nd)
    (mb_one (ms_if (mt_not (mt_val (me_callH HS hr (ma_cons (me_ix is_ix (me_var 0) (me_var 2)) (ma_cons (me_ix is_ix (me_var 1) (me_var 2)) ma_nil))))) (mb_one (ms_ret me_bl)) mb_nil)))
    (mb_one (ms_ret me_bl))))))))))
end
end PL
/-! printed by gen.py: _law_breadth is worth its evaluator -/
namespace PL
open PySem PySem.Spec PyProof.Rows L2
section
variable {P : Program} {w : World} {K : PySem.W.Frag} {mg : Str → Option Value} {base : Heap}
theorem has_law_breadth (B : Blt mg) (d : DefOf K mg "_law_breadth" s_law_breadth ["rows"])   : Has P w K mg base "_law_breadth" ["rows"] 1 m_law_breadth :=
  has_of (k := 0) (N := N_law_breadth) d sc_law_breadth fun cdv A outer s H E hr =>
  (mb_cons (ms_set (i := 1) sc_law_breadth.nd me_int)
    (mb_cons (ms_for PassesOwn.never rfl (mi_val (me_var 0)) (mg_one (i := 2) sc_law_breadth.nd)
    (mb_one (ms_set (i := 1) sc_law_breadth.nd (me_bin os_mul (me_var 1) (me_callB cs_len rfl B.b_len bb_len (ma_cons (me_ix is_ix (me_var 2) me_int) ma_nil))))))
    (mb_one (ms_ret (me_var 1)))))
end
end PL
/-! printed by gen.py: _law_mark_name is worth its evaluator -/
namespace PL
open PySem PySem.Spec PyProof.Rows L2
section
variable {P : Program} {w : World} {K : PySem.W.Frag} {mg : Str → Option Value} {base : Heap}
theorem has_law_mark_name (B : Blt mg) (d : DefOf K mg "_law_mark_name" s_law_mark_name ["who", "number"])   : Has P w K mg base "_law_mark_name" ["who", "number"] 1 m_law_mark_name :=
  has_of (k := 0) (N := N_law_mark_name) d sc_law_mark_name fun cdv A outer s H E hr =>
  (mb_one (ms_ret (me_bin os_add (me_bin os_add me_str (me_ix is_ix (me_lst (ma_cons me_str (ma_cons me_str (ma_cons me_str ma_nil)))) (me_var 0))) (me_callTy cs_str rfl B.b_str bt_str (ma_cons (me_var 1) ma_nil)))))
end
end PL
/-! printed by gen.py: _law_marked_for is worth its evaluator -/
namespace PL
open PySem PySem.Spec PyProof.Rows L2
section
variable {P : Program} {w : World} {K : PySem.W.Frag} {mg : Str → Option Value} {base : Heap}
theorem has_law_marked_for (B : Blt mg) (d : DefOf K mg "_law_marked_for" s_law_marked_for ["rows", "tree", "who", "past", "marks"])  (h_law_row : Has P w K mg base "_law_row" ["rows", "name"] 1 m_law_row) (h_law_mark_name : Has P w K mg base "_law_mark_name" ["who", "number"] 1 m_law_mark_name) : Has P w K mg base "_law_marked_for" ["rows", "tree", "who", "past", "marks"] 62 m_law_marked_for :=
  has_rec (k := 2) (n := 60) (N := N_law_marked_for) d sc_law_marked_for (by decide) fun n HS cdv A outer s H E hr =>
  (mb_cons (ms_if (mt_val (me_callB cs_isi rfl B.b_isinstance bb_isinstance (ma_cons (me_var 1) (ma_cons (me_bval (v := .ty "str") rfl B.b_str bt_str rfl) ma_nil)))) (mb_one (ms_ret (me_var 1))) mb_nil)
    (mb_cons (ms_set (i := 5) sc_law_marked_for.nd (me_ix is_ix (me_var 1) me_int))
    (mb_cons (ms_set (i := 6) sc_law_marked_for.nd (me_cmp (os_eq hr.units) (me_ix is_ix (me_callH h_law_row (hr.mono (by omega)) (ma_cons (me_var 0) (ma_cons (me_var 5) ma_nil))) me_int) (me_var 2)))
    (mb_cons (ms_if (mt_val (me_var 6)) (mb_cons (ms_if (mt_cmp (os_notIn hr.units) (me_tup (ma_cons (me_var 5) (ma_cons (me_var 3) ma_nil))) (me_var 4)) (mb_one (ms_expr (me_bm mts_append PySem.F.plainAttrs_list PySem.F.slot_list_append PySem.F.type_list_append (me_var 4) (ma_cons (me_tup (ma_cons (me_var 5) (ma_cons (me_var 3) ma_nil))) ma_nil)))) mb_nil)
    (mb_one (ms_set (i := 5) sc_law_marked_for.nd (me_callH h_law_mark_name (hr.mono (by omega)) (ma_cons (me_var 2) (ma_cons (me_bm (mts_index hr.units) PySem.F.plainAttrs_list PySem.F.slot_list_index PySem.F.type_list_index (me_var 4) (ma_cons (me_tup (ma_cons (me_var 5) (ma_cons (me_var 3) ma_nil))) ma_nil)) ma_nil)))))) mb_nil)
    (mb_cons (ms_set (i := 7) sc_law_marked_for.nd (me_loc ma_nil))
    (mb_cons (ms_for PassesOwn.never rfl (mi_range1 rfl B.b_range (me_callB cs_len rfl B.b_len bb_len (ma_cons (me_ix is_ix (me_var 1) me_int) ma_nil))) (mg_one (i := 8) sc_law_marked_for.nd)
    (mb_cons (ms_set (i := 9) sc_law_marked_for.nd (me_var 3))
    (mb_cons (ms_if (mt_val (me_var 6)) (mb_one (ms_set (i := 9) sc_law_marked_for.nd (me_bin os_add (me_var 3) (me_tup (ma_cons (me_tup (ma_cons (me_var 5) (ma_cons (me_var 8) ma_nil))) ma_nil))))) mb_nil)
    (mb_one (ms_expr (me_bm mts_append PySem.F.plainAttrs_list PySem.F.slot_list_append PySem.F.type_list_append (me_var 7) (ma_cons (me_callH HS hr (ma_cons (me_var 0) (ma_cons (me_ix is_ix (me_ix is_ix (me_var 1) me_int) (me_var 8)) (ma_cons (me_var 2) (ma_cons (me_var 9) (ma_cons (me_var 4) ma_nil)))))) ma_nil)))))))
    (mb_one (ms_ret (me_tup (ma_cons (me_var 5) (ma_cons (me_callTy cs_tuple rfl B.b_tuple bt_tuple (ma_cons (me_var 7) ma_nil)) ma_nil)))))))))))
end
end PL
/-! printed by gen.py: _law_told_apart is worth its evaluator -/
namespace PL
open PySem PySem.Spec PyProof.Rows L2
section
variable {P : Program} {w : World} {K : PySem.W.Frag} {mg : Str → Option Value} {base : Heap}
theorem has_law_told_apart (B : Blt mg) (d : DefOf K mg "_law_told_apart" s_law_told_apart ["game", "who"])  (h_law_row : Has P w K mg base "_law_row" ["rows", "name"] 1 m_law_row) (h_law_mark_name : Has P w K mg base "_law_mark_name" ["who", "number"] 1 m_law_mark_name) (h_law_marked_for : Has P w K mg base "_law_marked_for" ["rows", "tree", "who", "past", "marks"] 62 m_law_marked_for) : Has P w K mg base "_law_told_apart" ["game", "who"] 63 m_law_told_apart :=
  has_of (k := 62) (N := N_law_told_apart) d sc_law_told_apart fun cdv A outer s H E hr =>
  (mb_cons (ms_set (i := 2) sc_law_told_apart.nd (me_loc ma_nil))
    (mb_cons (ms_set (i := 3) sc_law_told_apart.nd (me_callH h_law_marked_for (hr.mono (by decide)) (ma_cons (me_ix is_ix (me_var 0) me_int) (ma_cons (me_ix is_ix (me_var 0) me_int) (ma_cons (me_var 1) (ma_cons (me_tup ma_nil) (ma_cons (me_var 2) ma_nil)))))))
    (mb_cons (ms_setCompG true (i := 4) (own := [("row", 6)]) rfl sc_law_told_apart.nd (mi_val (me_ix is_ix (me_var 0) me_int)) (blkOk_by (own := [("row", 6)]) (N := N_law_told_apart) (sc := defScope s_law_told_apart) (by decide +kernel)) (fun _ _ _ _ _ => (mg_one (i := 6) sc_law_told_apart.nd)) (fun _ _ _ _ _ => (mts_one (mt_cmp (os_ne hr.units) (me_ix is_ix (me_var 6) me_int) (me_var 1)))) (fun _ _ _ _ _ => (me_var 6)))
    (mb_cons (ms_for PassesOwn.never rfl (mi_range1 rfl B.b_range (me_callB cs_len rfl B.b_len bb_len (ma_cons (me_var 2) ma_nil))) (mg_one (i := 5) sc_law_told_apart.nd)
    (mb_one (ms_expr (me_bm mts_append PySem.F.plainAttrs_list PySem.F.slot_list_append PySem.F.type_list_append (me_var 4) (ma_cons (me_tup (ma_cons (me_callH h_law_mark_name (hr.mono (by decide)) (ma_cons (me_var 1) (ma_cons (me_var 5) ma_nil))) (ma_cons (me_var 1) (ma_cons (me_ix is_ix (me_callH h_law_row (hr.mono (by decide)) (ma_cons (me_ix is_ix (me_var 0) me_int) (ma_cons (me_ix is_ix (me_ix is_ix (me_var 2) (me_var 5)) me_int) ma_nil))) me_int) ma_nil)))) ma_nil)))))
    (mb_one (ms_ret (me_tup (ma_cons (me_callTy cs_tuple rfl B.b_tuple bt_tuple (ma_cons (me_callB (cs_sortedA hr.units) rfl B.b_sorted bb_sorted (ma_cons (me_var 4) ma_nil)) ma_nil)) (ma_cons (me_var 3) ma_nil)))))))))
end
end PL
/-! printed by gen.py: _law_owned is worth its evaluator -/
namespace PL
open PySem PySem.Spec PyProof.Rows L2
section
variable {P : Program} {w : World} {K : PySem.W.Frag} {mg : Str → Option Value} {base : Heap}
theorem has_law_owned (B : Blt mg) (d : DefOf K mg "_law_owned" s_law_owned ["script", "source", "owners", "most"])  (h_law_draw : Has P w K mg base "_law_draw" ["script", "source", "limit"] 1 m_law_draw) (h_law_name : Has P w K mg base "_law_name" ["script", "source", "used"] 2 m_law_name) (h_law_reduced : Has P w K mg base "_law_reduced" ["weights"] 2 m_law_reduced) : Has P w K mg base "_law_owned" ["script", "source", "owners", "most"] 3 m_law_owned :=
  has_of (k := 2) (N := N_law_owned) d sc_law_owned fun cdv A outer s H E hr =>
  (mb_cons (ms_set (i := 4) sc_law_owned.nd (me_loc ma_nil))
    (mb_cons (ms_for PassesOwn.never rfl (mi_val (me_var 2)) (mg_one (i := 5) sc_law_owned.nd)
    (mb_cons (ms_set (i := 6) sc_law_owned.nd (me_ix is_ix (me_lst (ma_cons me_int (ma_cons me_int (ma_cons me_int (ma_cons me_int (ma_cons me_int (ma_cons me_int ma_nil))))))) (me_callH h_law_draw (hr.mono (by decide)) (ma_cons (me_var 0) (ma_cons (me_var 1) (ma_cons me_int ma_nil))))))
    (mb_cons (ms_if (mt_cmp (os_gt hr.units) (me_var 6) (me_var 3)) (mb_one (ms_set (i := 6) sc_law_owned.nd me_int)) mb_nil)
    (mb_cons (ms_set (i := 3) sc_law_owned.nd (me_bin os_fdiv (me_var 3) (me_var 6)))
    (mb_cons (ms_setCompG false (i := 7) (own := [("k", 8)]) rfl sc_law_owned.nd (mi_range1 rfl B.b_range (me_var 6)) (blkOk_by (own := [("k", 8)]) (N := N_law_owned) (sc := defScope s_law_owned) (by decide +kernel)) (fun _ _ _ _ _ => (mg_one (i := 8) sc_law_owned.nd)) (fun _ _ _ _ _ => mts_nil) (fun _ _ _ _ _ => me_int))
    (mb_cons (ms_if (mt_cmp (os_eq hr.units) (me_var 5) me_int) (mb_one (ms_setCompG false (i := 7) (own := [("k", 8)]) rfl sc_law_owned.nd (mi_range1 rfl B.b_range (me_var 6)) (blkOk_by (own := [("k", 8)]) (N := N_law_owned) (sc := defScope s_law_owned) (by decide +kernel)) (fun _ _ _ _ _ => (mg_one (i := 8) sc_law_owned.nd)) (fun _ _ _ _ _ => mts_nil) (fun _ _ _ _ _ => (me_bin os_add me_int (me_callH h_law_draw (hr.mono (by decide)) (ma_cons (me_var 0) (ma_cons (me_var 1) (ma_cons me_int ma_nil)))))))) mb_nil)
    (mb_one (ms_expr (me_bm mts_append PySem.F.plainAttrs_list PySem.F.slot_list_append PySem.F.type_list_append (me_var 4) (ma_cons (me_tup (ma_cons (me_callH h_law_name (hr.mono (by decide)) (ma_cons (me_var 0) (ma_cons (me_var 1) (ma_cons (me_compG false (own := [("row", 9)]) rfl sc_law_owned.nd (mi_val (me_var 4)) (blkOk_by (own := [("row", 9)]) (N := N_law_owned) (sc := defScope s_law_owned) (by decide +kernel)) (fun _ _ _ _ _ => (mg_one (i := 9) sc_law_owned.nd)) (fun _ _ _ _ _ => mts_nil) (fun _ _ _ _ _ => (me_ix is_ix (me_var 9) me_int))) ma_nil)))) (ma_cons (me_var 5) (ma_cons (me_callH h_law_reduced (hr.mono (by decide)) (ma_cons (me_var 7) ma_nil)) ma_nil)))) ma_nil))))))))))
    (mb_one (ms_ret (me_callTy cs_tuple rfl B.b_tuple bt_tuple (ma_cons (me_callB (cs_sortedA hr.units) rfl B.b_sorted bb_sorted (ma_cons (me_var 4) ma_nil)) ma_nil))))))
end
end PL
/-! printed by gen.py: _law_outcome_names is worth its evaluator -/
namespace PL
open PySem PySem.Spec PyProof.Rows L2
section
variable {P : Program} {w : World} {K : PySem.W.Frag} {mg : Str → Option Value} {base : Heap}
theorem has_law_outcome_names (B : Blt mg) (d : DefOf K mg "_law_outcome_names" s_law_outcome_names ["script", "source", "least", "more"])  (h_law_draw : Has P w K mg base "_law_draw" ["script", "source", "limit"] 1 m_law_draw) (h_law_name : Has P w K mg base "_law_name" ["script", "source", "used"] 2 m_law_name) : Has P w K mg base "_law_outcome_names" ["script", "source", "least", "more"] 3 m_law_outcome_names :=
  has_of (k := 2) (N := N_law_outcome_names) d sc_law_outcome_names fun cdv A outer s H E hr =>
  (mb_cons (ms_set (i := 4) sc_law_outcome_names.nd (me_loc ma_nil))
    (mb_cons (ms_for PassesOwn.never rfl (mi_range1 rfl B.b_range (me_bin os_add (me_var 2) (me_callH h_law_draw (hr.mono (by decide)) (ma_cons (me_var 0) (ma_cons (me_var 1) (ma_cons (me_var 3) ma_nil)))))) (mg_one (i := 5) sc_law_outcome_names.nd)
    (mb_one (ms_expr (me_bm mts_append PySem.F.plainAttrs_list PySem.F.slot_list_append PySem.F.type_list_append (me_var 4) (ma_cons (me_callH h_law_name (hr.mono (by decide)) (ma_cons (me_var 0) (ma_cons (me_var 1) (ma_cons (me_var 4) ma_nil)))) ma_nil)))))
    (mb_one (ms_ret (me_var 4)))))
end
end PL
/-! printed by gen.py: _law_grown_game is worth its evaluator -/
namespace PL
open PySem PySem.Spec PyProof.Rows L2
section
variable {P : Program} {w : World} {K : PySem.W.Frag} {mg : Str → Option Value} {base : Heap}
theorem has_law_grown_game (B : Blt mg) (d : DefOf K mg "_law_grown_game" s_law_grown_game ["script", "source", "owners", "most", "nodes"])  (h_law_draw : Has P w K mg base "_law_draw" ["script", "source", "limit"] 1 m_law_draw) (h_law_tree : Has P w K mg base "_law_tree" ["script", "source", "free", "outcomes", "room", "wish"] 62 m_law_tree) (h_law_owned : Has P w K mg base "_law_owned" ["script", "source", "owners", "most"] 3 m_law_owned) (h_law_outcome_names : Has P w K mg base "_law_outcome_names" ["script", "source", "least", "more"] 3 m_law_outcome_names) : Has P w K mg base "_law_grown_game" ["script", "source", "owners", "most", "nodes"] 63 m_law_grown_game :=
  has_of (k := 62) (N := N_law_grown_game) d sc_law_grown_game fun cdv A outer s H E hr =>
  (mb_cons (ms_set (i := 5) sc_law_grown_game.nd (me_callH h_law_owned (hr.mono (by decide)) (ma_cons (me_var 0) (ma_cons (me_var 1) (ma_cons (me_var 2) (ma_cons (me_var 3) ma_nil))))))
    (mb_cons (ms_set (i := 6) sc_law_grown_game.nd (me_callH h_law_outcome_names (hr.mono (by decide)) (ma_cons (me_var 0) (ma_cons (me_var 1) (ma_cons me_int (ma_cons me_int ma_nil))))))
    (mb_cons (ms_setCompG false (i := 7) (own := [("row", 9)]) rfl sc_law_grown_game.nd (mi_val (me_var 5)) (blkOk_by (own := [("row", 9)]) (N := N_law_grown_game) (sc := defScope s_law_grown_game) (by decide +kernel)) (fun _ _ _ _ _ => (mg_one (i := 9) sc_law_grown_game.nd)) (fun _ _ _ _ _ => (mts_one (mt_cmp (os_gt hr.units) (me_callB cs_len rfl B.b_len bb_len (ma_cons (me_ix is_ix (me_var 9) me_int) ma_nil)) me_int))) (fun _ _ _ _ _ => (me_var 9)))
    (mb_cons (ms_if (mt_cmp (os_eq hr.units) (me_callB cs_len rfl B.b_len bb_len (ma_cons (me_var 7) ma_nil)) me_int) (mb_one (ms_set (i := 7) sc_law_grown_game.nd (me_callTy cs_list rfl B.b_list bt_list (ma_cons (me_var 5) ma_nil)))) mb_nil)
    (mb_cons (ms_set (i := 8) sc_law_grown_game.nd (me_ix is_ix (me_var 7) (me_callH h_law_draw (hr.mono (by decide)) (ma_cons (me_var 0) (ma_cons (me_var 1) (ma_cons (me_callB cs_len rfl B.b_len bb_len (ma_cons (me_var 7) ma_nil)) ma_nil))))))
    (mb_one (ms_ret (me_tup (ma_cons (me_var 5) (ma_cons (me_callH h_law_tree (hr.mono (by decide)) (ma_cons (me_var 0) (ma_cons (me_var 1) (ma_cons (me_callTy cs_list rfl B.b_list bt_list (ma_cons (me_var 5) ma_nil)) (ma_cons (me_var 6) (ma_cons (me_loc (ma_cons (me_var 4) ma_nil)) (ma_cons (me_var 8) ma_nil))))))) ma_nil))))))))))
end
end PL
/-! printed by gen.py: _law_small is worth its evaluator -/
namespace PL
open PySem PySem.Spec PyProof.Rows L2
section
variable {P : Program} {w : World} {K : PySem.W.Frag} {mg : Str → Option Value} {base : Heap}
theorem has_law_small (B : Blt mg) (d : DefOf K mg "_law_small" s_law_small ["script", "source", "most"])  (h_law_draw : Has P w K mg base "_law_draw" ["script", "source", "limit"] 1 m_law_draw) (h_law_breadth : Has P w K mg base "_law_breadth" ["rows"] 1 m_law_breadth) (h_law_told_apart : Has P w K mg base "_law_told_apart" ["game", "who"] 63 m_law_told_apart) (h_law_grown_game : Has P w K mg base "_law_grown_game" ["script", "source", "owners", "most", "nodes"] 63 m_law_grown_game) : Has P w K mg base "_law_small" ["script", "source", "most"] 64 m_law_small :=
  has_of (k := 63) (N := N_law_small) d sc_law_small fun cdv A outer s H E hr =>
  (mb_cons (ms_set (i := 3) sc_law_small.nd (me_lst (ma_cons (me_lst (ma_cons me_int (ma_cons me_int ma_nil))) (ma_cons (me_lst (ma_cons me_int (ma_cons me_int (ma_cons me_int ma_nil)))) (ma_cons (me_lst (ma_cons me_int (ma_cons me_int (ma_cons me_int ma_nil)))) (ma_cons (me_lst (ma_cons me_int (ma_cons me_int (ma_cons me_int ma_nil)))) (ma_cons (me_lst (ma_cons me_int (ma_cons me_int (ma_cons me_int (ma_cons me_int ma_nil))))) (ma_cons (me_lst (ma_cons me_int (ma_cons me_int (ma_cons me_int (ma_cons me_int ma_nil))))) (ma_cons (me_lst (ma_cons me_int (ma_cons me_int (ma_cons me_int (ma_cons me_int ma_nil))))) (ma_cons (me_lst (ma_cons me_int (ma_cons me_int ma_nil))) (ma_cons (me_lst (ma_cons me_int (ma_cons me_int (ma_cons me_int ma_nil)))) (ma_cons (me_lst (ma_cons me_int (ma_cons me_int (ma_cons me_int (ma_cons me_int ma_nil))))) ma_nil))))))))))))
    (mb_cons (ms_set (i := 4) sc_law_small.nd (me_callH h_law_grown_game (hr.mono (by decide)) (ma_cons (me_var 0) (ma_cons (me_var 1) (ma_cons (me_ix is_ix (me_var 3) (me_callH h_law_draw (hr.mono (by decide)) (ma_cons (me_var 0) (ma_cons (me_var 1) (ma_cons me_int ma_nil))))) (ma_cons (me_var 2) (ma_cons me_int ma_nil)))))))
    (mb_cons (ms_set (i := 5) sc_law_small.nd (me_var 4))
    (mb_cons (ms_if (mt_cmp (os_gt hr.units) (me_callH h_law_draw (hr.mono (by decide)) (ma_cons (me_var 0) (ma_cons (me_var 1) (ma_cons me_int ma_nil)))) me_int) (mb_one (ms_set (i := 5) sc_law_small.nd (me_callH h_law_told_apart (hr.mono (by decide)) (ma_cons (me_callH h_law_told_apart (hr.mono (by decide)) (ma_cons (me_var 4) (ma_cons me_int ma_nil))) (ma_cons me_int ma_nil))))) mb_nil)
    (mb_cons (ms_if (PW.pt (mw_and (mt_cmp (os_le hr.units) (me_callH h_law_breadth (hr.mono (by decide)) (ma_cons (me_ix is_ix (me_var 5) me_int) ma_nil)) (me_bin os_add (me_var 2) (me_bin os_fdiv (me_var 2) me_int))) (mw_and1 (mt_cmp (os_le hr.units) (me_callB cs_len rfl B.b_len bb_len (ma_cons (me_ix is_ix (me_var 5) me_int) ma_nil)) me_int)))) (mb_one (ms_ret (me_var 5))) mb_nil)
    (mb_one (ms_ret (me_var 4))))))))
end
end PL
/-! printed by gen.py: _law_own_parted is worth its evaluator -/
namespace PL
open PySem PySem.Spec PyProof.Rows L2
section
variable {P : Program} {w : World} {K : PySem.W.Frag} {mg : Str → Option Value} {base : Heap}
theorem has_law_own_parted (B : Blt mg) (d : DefOf K mg "_law_own_parted" s_law_own_parted ["tree", "path", "paths", "new"])   : Has P w K mg base "_law_own_parted" ["tree", "path", "paths", "new"] 61 m_law_own_parted :=
  has_rec (k := 1) (n := 60) (N := N_law_own_parted) d sc_law_own_parted (by decide) fun n HS cdv A outer s H E hr =>
  (mb_cons (ms_if (mt_val (me_callB cs_isi rfl B.b_isinstance bb_isinstance (ma_cons (me_var 0) (ma_cons (me_bval (v := .ty "str") rfl B.b_str bt_str rfl) ma_nil)))) (mb_one (ms_ret (me_var 0))) mb_nil)
    (mb_cons (ms_set (i := 4) sc_law_own_parted.nd (me_loc ma_nil))
    (mb_cons (ms_for PassesOwn.never rfl (mi_range1 rfl B.b_range (me_callB cs_len rfl B.b_len bb_len (ma_cons (me_ix is_ix (me_var 0) me_int) ma_nil))) (mg_one (i := 5) sc_law_own_parted.nd)
    (mb_one (ms_expr (me_bm mts_append PySem.F.plainAttrs_list PySem.F.slot_list_append PySem.F.type_list_append (me_var 4) (ma_cons (me_callH HS hr (ma_cons (me_ix is_ix (me_ix is_ix (me_var 0) me_int) (me_var 5)) (ma_cons (me_bin os_add (me_var 1) (me_tup (ma_cons (me_var 5) ma_nil))) (ma_cons (me_var 2) (ma_cons (me_var 3) ma_nil))))) ma_nil)))))
    (mb_cons (ms_if (mt_cmp (os_in hr.units) (me_var 1) (me_var 2)) (mb_one (ms_ret (me_tup (ma_cons (me_var 3) (ma_cons (me_callTy cs_tuple rfl B.b_tuple bt_tuple (ma_cons (me_var 4) ma_nil)) ma_nil))))) mb_nil)
    (mb_one (ms_ret (me_tup (ma_cons (me_ix is_ix (me_var 0) me_int) (ma_cons (me_callTy cs_tuple rfl B.b_tuple bt_tuple (ma_cons (me_var 4) ma_nil)) ma_nil)))))))))
end
end PL
/-! printed by gen.py: _law_parted_or is worth its evaluator -/
namespace PL
open PySem PySem.Spec PyProof.Rows L2
section
variable {P : Program} {w : World} {K : PySem.W.Frag} {mg : Str → Option Value} {base : Heap}
theorem has_law_parted_or (B : Blt mg) (d : DefOf K mg "_law_parted_or" s_law_parted_or ["game", "name", "paths", "new"])  {C_BadPath : Addr} (x_BadPath : X0 K mg "BadPath" C_BadPath) {C_NamesMeet : Addr} (x_NamesMeet : X0 K mg "NamesMeet" C_NamesMeet) (sep_BadPath_NamesMeet : PySem.W.exmOne K (.ref C_BadPath) (.ref C_NamesMeet) = some false) (te_BadPath : PySem.W.exmOne K (.ref C_BadPath) (.ref C_BadPath) = some true) (te_NamesMeet : PySem.W.exmOne K (.ref C_NamesMeet) (.ref C_NamesMeet) = some true) (is_BadPath : IsC K C_BadPath) (is_NamesMeet : IsC K C_NamesMeet) (g_BadPath : mg "BadPath" = some (.ref C_BadPath)) {C_BadStep : Addr} (g_BadStep : mg "BadStep" = some (.ref C_BadStep)) (k_BadPath_BadStep : PySem.W.kitOne K (.ref C_BadPath) (.ref C_BadStep) = some false) (k_NamesMeet_BadPath : PySem.W.kitOne K (.ref C_NamesMeet) (.ref C_BadPath) = some false) (h_parted : HasX P w K mg base "parted" ["game", "name", "paths", "new"] 62 m_parted) : Has P w K mg base "_law_parted_or" ["game", "name", "paths", "new"] 63 m_law_parted_or :=
  has_of (k := 62) (N := N_law_parted_or) d sc_law_parted_or fun cdv A outer s H E hr =>
  (mb_one (ms_tryM rfl rfl sc_law_parted_or.nd (.cons (x := "NamesMeet") (C := C_NamesMeet) (i := 4) rfl rfl ⟨rfl, by decide, Or.inl x_NamesMeet.gC⟩ x_NamesMeet.gC te_NamesMeet (by intro q hq; simp only [List.mem_cons, List.not_mem_nil, or_false] at hq; subst hq; exact sep_BadPath_NamesMeet) (su_none fun a oe pn hz hf => (mb_one (ms_ret (me_lst (ma_cons me_str (ma_cons (me_isE0 (u := .ref C_BadPath) (v := .ref C_BadPath) is_NamesMeet hz hf B.b_isinstance bb_isinstance k_NamesMeet_BadPath (fun _ r => r) (fun W => me_gval (v := .ref C_BadPath) rfl g_BadPath rfl) (me_var 4)) ma_nil))))))
    (.cons (x := "BadPath") (C := C_BadPath) (i := 4) rfl rfl ⟨rfl, by decide, Or.inl x_BadPath.gC⟩ x_BadPath.gC te_BadPath (by intro q hq; cases hq) (su_none fun a oe pn hz hf => (mb_one (ms_ret (me_lst (ma_cons me_str (ma_cons (me_isE0 (u := .ref C_BadStep) (v := .ref C_BadStep) is_BadPath hz hf B.b_isinstance bb_isinstance k_BadPath_BadStep (fun _ r => r) (fun W => me_gval (v := .ref C_BadStep) rfl g_BadStep rfl) (me_var 4)) ma_nil))))))
    .nil)) rfl (fun W pn xe tk => (mb_one (ms_ret (me_callX tk h_parted (hr.mono (by decide)) (ma_cons (me_var 0) (ma_cons (me_var 1) (ma_cons (me_var 2) (ma_cons (me_var 3) ma_nil))))))))))
end
end PL
/-! printed by gen.py: _law_mingled_or is worth its evaluator -/
namespace PL
open PySem PySem.Spec PyProof.Rows L2
section
variable {P : Program} {w : World} {K : PySem.W.Frag} {mg : Str → Option Value} {base : Heap}
theorem has_law_mingled_or (B : Blt mg) (d : DefOf K mg "_law_mingled_or" s_law_mingled_or ["game", "name", "other"])  {C_BadStep : Addr} (x_BadStep : X0 K mg "BadStep" C_BadStep) (te_BadStep : PySem.W.exmOne K (.ref C_BadStep) (.ref C_BadStep) = some true) (is_BadStep : IsC K C_BadStep) {C_NamesMeet : Addr} (g_NamesMeet : mg "NamesMeet" = some (.ref C_NamesMeet)) (k_BadStep_NamesMeet : PySem.W.kitOne K (.ref C_BadStep) (.ref C_NamesMeet) = some false) (h_mingled : HasX P w K mg base "mingled" ["game", "name", "other"] 63 m_mingled) : Has P w K mg base "_law_mingled_or" ["game", "name", "other"] 64 m_law_mingled_or :=
  has_of (k := 63) (N := N_law_mingled_or) d sc_law_mingled_or fun cdv A outer s H E hr =>
  (mb_one (ms_tryM rfl rfl sc_law_mingled_or.nd (.cons (x := "BadStep") (C := C_BadStep) (i := 3) rfl rfl ⟨rfl, by decide, Or.inl x_BadStep.gC⟩ x_BadStep.gC te_BadStep (by intro q hq; cases hq) (su_none fun a oe pn hz hf => (mb_one (ms_ret (me_lst (ma_cons me_str (ma_cons (me_isE0 (u := .ref C_NamesMeet) (v := .ref C_NamesMeet) is_BadStep hz hf B.b_isinstance bb_isinstance k_BadStep_NamesMeet (fun _ r => r) (fun W => me_gval (v := .ref C_NamesMeet) rfl g_NamesMeet rfl) (me_var 3)) ma_nil))))))
    .nil) rfl (fun W pn xe tk => (mb_one (ms_ret (me_callX tk h_mingled (hr.mono (by decide)) (ma_cons (me_var 0) (ma_cons (me_var 1) (ma_cons (me_var 2) ma_nil)))))))))
end
end PL
/-! printed by gen.py: _law_can_mingle is worth its evaluator -/
namespace PL
open PySem PySem.Spec PyProof.Rows L2
section
variable {P : Program} {w : World} {K : PySem.W.Frag} {mg : Str → Option Value} {base : Heap}
theorem has_law_can_mingle (B : Blt mg) (d : DefOf K mg "_law_can_mingle" s_law_can_mingle ["game", "name", "other"])  (h_law_row : Has P w K mg base "_law_row" ["rows", "name"] 1 m_law_row) (h_law_nodes : Has P w K mg base "_law_nodes" ["tree", "path", "pairs"] 61 m_law_nodes) : Has P w K mg base "_law_can_mingle" ["game", "name", "other"] 62 m_law_can_mingle :=
  has_of (k := 61) (N := N_law_can_mingle) d sc_law_can_mingle fun cdv A outer s H E hr =>
  (mb_cons (ms_set (i := 3) sc_law_can_mingle.nd (me_callH h_law_row (hr.mono (by decide)) (ma_cons (me_ix is_ix (me_var 0) me_int) (ma_cons (me_var 1) ma_nil))))
    (mb_cons (ms_set (i := 4) sc_law_can_mingle.nd (me_callH h_law_row (hr.mono (by decide)) (ma_cons (me_ix is_ix (me_var 0) me_int) (ma_cons (me_var 2) ma_nil))))
    (mb_cons (ms_if (PW.pt (mw_or (mt_cmp os_is (me_var 3) me_non) (mw_or (mt_cmp os_is (me_var 4) me_non) (mw_or (mt_cmp (os_eq hr.units) (me_var 1) (me_var 2)) (mw_or1 (mt_cmp (os_ne hr.units) (me_sl ss_sl (me_var 3) (mo_some me_int) mo_none) (me_sl ss_sl (me_var 4) (mo_some me_int) mo_none))))))) (mb_one (ms_ret me_bl)) mb_nil)
    (mb_cons (ms_for PassesOwn.never rfl (mi_val (me_callH h_law_nodes (hr.mono (by decide)) (ma_cons (me_ix is_ix (me_var 0) me_int) (ma_cons (me_tup ma_nil) (ma_cons (me_tup ma_nil) ma_nil))))) (mg_tup rfl (mgs_cons (i := 5) sc_law_can_mingle.nd (mgs_cons (i := 6) sc_law_can_mingle.nd (mgs_cons (i := 7) sc_law_can_mingle.nd mgs_nil))))
    (mb_cons (ms_setCompG false (i := 8) (own := [("pair", 9)]) rfl sc_law_can_mingle.nd (mi_val (me_var 7)) (blkOk_by (own := [("pair", 9)]) (N := N_law_can_mingle) (sc := defScope s_law_can_mingle) (by decide +kernel)) (fun _ _ _ _ _ => (mg_one (i := 9) sc_law_can_mingle.nd)) (fun _ _ _ _ _ => mts_nil) (fun _ _ _ _ _ => (me_ix is_ix (me_var 9) me_int)))
    (mb_one (ms_if (PW.pt (mw_or (PW.pt (mw_and (mt_cmp (os_eq hr.units) (me_ix is_ix (me_var 6) me_int) (me_var 1)) (mw_and1 (mt_cmp (os_in hr.units) (me_var 2) (me_var 8))))) (mw_or1 (PW.pt (mw_and (mt_cmp (os_eq hr.units) (me_ix is_ix (me_var 6) me_int) (me_var 2)) (mw_and1 (mt_cmp (os_in hr.units) (me_var 1) (me_var 8)))))))) (mb_one (ms_ret me_bl)) mb_nil))))
    (mb_one (ms_ret me_bl))))))
end
end PL
/-! printed by gen.py: law is worth its evaluator -/
namespace PL
open PySem PySem.Spec PyProof.Rows L2
section
variable {P : Program} {w : World} {K : PySem.W.Frag} {mg : Str → Option Value} {base : Heap}
theorem has_law (B : Blt mg) (d : DefOf K mg "law" s_law ["script"])  (h_set_pairs : Has P w K mg base "set_pairs" ["game"] 63 m_set_pairs) (h_law_source : Has P w K mg base "_law_source" ["script"] 1 m_law_source) (h_law_draw : Has P w K mg base "_law_draw" ["script", "source", "limit"] 1 m_law_draw) (h_law_name : Has P w K mg base "_law_name" ["script", "source", "used"] 2 m_law_name) (h_law_nodes : Has P w K mg base "_law_nodes" ["tree", "path", "pairs"] 61 m_law_nodes) (h_law_moved : Has P w K mg base "_law_moved" ["tree", "name", "order", "new"] 61 m_law_moved) (h_law_told : Has P w K mg base "_law_told" ["answer", "due"] 61 m_law_told) (h_law_small : Has P w K mg base "_law_small" ["script", "source", "most"] 64 m_law_small) (h_law_own_parted : Has P w K mg base "_law_own_parted" ["tree", "path", "paths", "new"] 61 m_law_own_parted) (h_law_parted_or : Has P w K mg base "_law_parted_or" ["game", "name", "paths", "new"] 63 m_law_parted_or) (h_law_mingled_or : Has P w K mg base "_law_mingled_or" ["game", "name", "other"] 64 m_law_mingled_or) (h_law_can_mingle : Has P w K mg base "_law_can_mingle" ["game", "name", "other"] 62 m_law_can_mingle) : Has P w K mg base "law" ["script"] 65 m_law :=
  has_of (k := 64) (N := N_law) d sc_law fun cdv A outer s H E hr =>
  (mb_cons (ms_set (i := 1) sc_law.nd (me_callH h_law_source (hr.mono (by decide)) (ma_cons (me_var 0) ma_nil)))
    (mb_cons (ms_set (i := 2) sc_law.nd (me_callH h_law_small (hr.mono (by decide)) (ma_cons (me_var 0) (ma_cons (me_var 1) (ma_cons me_int ma_nil)))))
    (mb_cons (ms_tg (mg_tup rfl (mgs_cons (i := 13) sc_law.nd (mgs_cons (i := 14) sc_law.nd mgs_nil))) (me_var 2))
    (mb_cons (ms_set (i := 3) sc_law.nd (me_ix is_ix (me_var 13) (me_callH h_law_draw (hr.mono (by decide)) (ma_cons (me_var 0) (ma_cons (me_var 1) (ma_cons (me_callB cs_len rfl B.b_len bb_len (ma_cons (me_var 13) ma_nil)) ma_nil))))))
    (mb_cons (ms_set (i := 4) sc_law.nd (me_callH h_law_nodes (hr.mono (by decide)) (ma_cons (me_var 14) (ma_cons (me_tup ma_nil) (ma_cons (me_tup ma_nil) ma_nil)))))
    (mb_cons (ms_setCompG true (i := 5) (own := [("one", 11)]) rfl sc_law.nd (mi_val (me_var 4)) (blkOk_by (own := [("one", 11)]) (N := N_law) (sc := defScope s_law) (by decide +kernel)) (fun _ _ _ _ _ => (mg_one (i := 11) sc_law.nd)) (fun _ _ _ _ _ => (mts_one (PW.pt (mw_and (mt_cmp (os_eq hr.units) (me_ix is_ix (me_ix is_ix (me_var 11) me_int) me_int) (me_ix is_ix (me_var 3) me_int)) (mw_and1 (mt_cmp (os_eq hr.units) (me_callH h_law_draw (hr.mono (by decide)) (ma_cons (me_var 0) (ma_cons (me_var 1) (ma_cons me_int ma_nil)))) me_int)))))) (fun _ _ _ _ _ => (me_ix is_ix (me_var 11) me_int)))
    (mb_cons (ms_set (i := 6) sc_law.nd (me_cmp (os_eq hr.units) (me_callH h_law_draw (hr.mono (by decide)) (ma_cons (me_var 0) (ma_cons (me_var 1) (ma_cons me_int ma_nil)))) me_int))
    (mb_cons (ms_if (mt_val (me_var 6)) (mb_cons (ms_set (i := 15) sc_law.nd (me_bin os_add (me_compG false (own := [("one", 11)]) rfl sc_law.nd (mi_val (me_var 4)) (blkOk_by (own := [("one", 11)]) (N := N_law) (sc := defScope s_law) (by decide +kernel)) (fun _ _ _ _ _ => (mg_one (i := 11) sc_law.nd)) (fun _ _ _ _ _ => (mts_one (mt_cmp (os_ne hr.units) (me_ix is_ix (me_ix is_ix (me_var 11) me_int) me_int) (me_ix is_ix (me_var 3) me_int)))) (fun _ _ _ _ _ => (me_ix is_ix (me_var 11) me_int))) (me_lst (ma_cons (me_tup (ma_cons me_int ma_nil)) ma_nil))))
    (mb_one (ms_expr (me_bm mts_append PySem.F.plainAttrs_list PySem.F.slot_list_append PySem.F.type_list_append (me_var 5) (ma_cons (me_ix is_ix (me_var 15) (me_callH h_law_draw (hr.mono (by decide)) (ma_cons (me_var 0) (ma_cons (me_var 1) (ma_cons (me_callB cs_len rfl B.b_len bb_len (ma_cons (me_var 15) ma_nil)) ma_nil))))) ma_nil))))) mb_nil)
    (mb_cons (ms_setCompG false (i := 7) (own := [("one", 11)]) rfl sc_law.nd (mi_val (me_var 13)) (blkOk_by (own := [("one", 11)]) (N := N_law) (sc := defScope s_law) (by decide +kernel)) (fun _ _ _ _ _ => (mg_one (i := 11) sc_law.nd)) (fun _ _ _ _ _ => mts_nil) (fun _ _ _ _ _ => (me_ix is_ix (me_var 11) me_int)))
    (mb_cons (ms_set (i := 8) sc_law.nd (me_callH h_law_name (hr.mono (by decide)) (ma_cons (me_var 0) (ma_cons (me_var 1) (ma_cons (me_var 7) ma_nil)))))
    (mb_cons (ms_if (mt_cmp (os_eq hr.units) (me_callH h_law_draw (hr.mono (by decide)) (ma_cons (me_var 0) (ma_cons (me_var 1) (ma_cons me_int ma_nil)))) me_int) (mb_one (ms_set (i := 8) sc_law.nd (me_ix is_ix (me_var 7) (me_callH h_law_draw (hr.mono (by decide)) (ma_cons (me_var 0) (ma_cons (me_var 1) (ma_cons (me_callB cs_len rfl B.b_len bb_len (ma_cons (me_var 7) ma_nil)) ma_nil))))))) mb_nil)
    (mb_cons (ms_set (i := 9) sc_law.nd (me_callH h_law_parted_or (hr.mono (by decide)) (ma_cons (me_var 2) (ma_cons (me_ix is_ix (me_var 3) me_int) (ma_cons (me_callTy cs_list rfl B.b_list bt_list (ma_cons (me_var 5) ma_nil)) (ma_cons (me_var 8) ma_nil))))))
    (mb_cons (ms_if (mt_cmp (os_in hr.units) (me_var 8) (me_var 7)) (mb_one (ms_if (mt_not (mt_val (me_callH h_law_told (hr.mono (by decide)) (ma_cons (me_var 9) (ma_cons (me_lst (ma_cons me_str (ma_cons me_bl ma_nil))) ma_nil))))) (mb_one (ms_ret me_bl)) mb_nil)) (mb_one (ms_if (mt_val (me_var 6)) (mb_one (ms_if (mt_not (mt_val (me_callH h_law_told (hr.mono (by decide)) (ma_cons (me_var 9) (ma_cons (me_lst (ma_cons me_str (ma_cons me_bl ma_nil))) ma_nil))))) (mb_one (ms_ret me_bl)) mb_nil)) (mb_cons (ms_set (i := 17) sc_law.nd (me_tup (ma_cons (me_callTy cs_tuple rfl B.b_tuple bt_tuple (ma_cons (me_callB (cs_sortedA hr.units) rfl B.b_sorted bb_sorted (ma_cons (me_bin os_add (me_var 13) (me_tup (ma_cons (me_tup (ma_cons (me_var 8) (ma_cons (me_ix is_ix (me_var 3) me_int) (ma_cons (me_ix is_ix (me_var 3) me_int) ma_nil)))) ma_nil))) ma_nil)) ma_nil)) (ma_cons (me_callH h_law_own_parted (hr.mono (by decide)) (ma_cons (me_var 14) (ma_cons (me_tup ma_nil) (ma_cons (me_var 5) (ma_cons (me_var 8) ma_nil))))) ma_nil))))
    (mb_cons (ms_if (PW.pt (mw_or (mt_not (mt_val (me_callH h_law_told (hr.mono (by decide)) (ma_cons (me_var 9) (ma_cons (me_var 17) ma_nil))))) (mw_or1 (mt_not (mt_val (me_callH h_law_told (hr.mono (by decide)) (ma_cons (me_callH h_law_mingled_or (hr.mono (by decide)) (ma_cons (me_var 17) (ma_cons (me_ix is_ix (me_var 3) me_int) (ma_cons (me_var 8) ma_nil)))) (ma_cons (me_var 2) ma_nil)))))))) (mb_one (ms_ret me_bl)) mb_nil)
    (mb_one (ms_set (i := 2) sc_law.nd (me_var 17))))))))
    (mb_cons (ms_set (i := 10) sc_law.nd (me_loc ma_nil))
    (mb_cons (ms_for PassesOwn.never rfl (mi_val (me_ix is_ix (me_var 2) me_int)) (mg_one (i := 11) sc_law.nd)
    (mb_one (ms_for PassesOwn.never rfl (mi_val (me_ix is_ix (me_var 2) me_int)) (mg_one (i := 16) sc_law.nd)
    (mb_one (ms_if (PW.pt (mw_and (mt_cmp (os_lt hr.units) (me_ix is_ix (me_var 11) me_int) (me_ix is_ix (me_var 16) me_int)) (mw_and1 (mt_val (me_callH h_law_can_mingle (hr.mono (by decide)) (ma_cons (me_var 2) (ma_cons (me_ix is_ix (me_var 11) me_int) (ma_cons (me_ix is_ix (me_var 16) me_int) ma_nil)))))))) (mb_one (ms_expr (me_bm mts_append PySem.F.plainAttrs_list PySem.F.slot_list_append PySem.F.type_list_append (me_var 10) (ma_cons (me_tup (ma_cons (me_ix is_ix (me_var 11) me_int) (ma_cons (me_ix is_ix (me_var 16) me_int) ma_nil))) ma_nil)))) mb_nil)))))
    (mb_cons (ms_if (mt_not (mt_val (me_callH h_law_told (hr.mono (by decide)) (ma_cons (me_callH h_set_pairs (hr.mono (by decide)) (ma_cons (me_var 2) ma_nil)) (ma_cons (me_var 10) ma_nil))))) (mb_one (ms_ret me_bl)) mb_nil)
    (mb_cons (ms_set (i := 7) sc_law.nd (me_bin os_add (me_compG false (own := [("one", 11)]) rfl sc_law.nd (mi_val (me_ix is_ix (me_var 2) me_int)) (blkOk_by (own := [("one", 11)]) (N := N_law) (sc := defScope s_law) (by decide +kernel)) (fun _ _ _ _ _ => (mg_one (i := 11) sc_law.nd)) (fun _ _ _ _ _ => mts_nil) (fun _ _ _ _ _ => (me_ix is_ix (me_var 11) me_int))) (me_lst (ma_cons me_str ma_nil))))
    (mb_cons (ms_for PassesOwn.never rfl (mi_range1 rfl B.b_range me_int) (mg_one (i := 12) sc_law.nd)
    (mb_cons (ms_set (i := 11) sc_law.nd (me_ix is_ix (me_var 7) (me_callH h_law_draw (hr.mono (by decide)) (ma_cons (me_var 0) (ma_cons (me_var 1) (ma_cons (me_callB cs_len rfl B.b_len bb_len (ma_cons (me_var 7) ma_nil)) ma_nil))))))
    (mb_cons (ms_set (i := 16) sc_law.nd (me_ix is_ix (me_var 7) (me_callH h_law_draw (hr.mono (by decide)) (ma_cons (me_var 0) (ma_cons (me_var 1) (ma_cons (me_callB cs_len rfl B.b_len bb_len (ma_cons (me_var 7) ma_nil)) ma_nil))))))
    (mb_cons (ms_set (i := 9) sc_law.nd (me_callH h_law_mingled_or (hr.mono (by decide)) (ma_cons (me_var 2) (ma_cons (me_var 11) (ma_cons (me_var 16) ma_nil)))))
    (mb_one (ms_if (mt_not (mt_val (me_callH h_law_can_mingle (hr.mono (by decide)) (ma_cons (me_var 2) (ma_cons (me_var 11) (ma_cons (me_var 16) ma_nil)))))) (mb_one (ms_if (mt_not (mt_val (me_callH h_law_told (hr.mono (by decide)) (ma_cons (me_var 9) (ma_cons (me_lst (ma_cons me_str (ma_cons me_bl ma_nil))) ma_nil))))) (mb_one (ms_ret me_bl)) mb_nil)) (mb_cons (ms_set (i := 17) sc_law.nd (me_tup (ma_cons (me_callTy cs_tuple rfl B.b_tuple bt_tuple (ma_cons (me_compG false (own := [("other", 18)]) rfl sc_law.nd (mi_val (me_ix is_ix (me_var 2) me_int)) (blkOk_by (own := [("other", 18)]) (N := N_law) (sc := defScope s_law) (by decide +kernel)) (fun _ _ _ _ _ => (mg_one (i := 18) sc_law.nd)) (fun _ _ _ _ _ => (mts_one (mt_cmp (os_ne hr.units) (me_ix is_ix (me_var 18) me_int) (me_var 16)))) (fun _ _ _ _ _ => (me_var 18))) ma_nil)) (ma_cons (me_callH h_law_moved (hr.mono (by decide)) (ma_cons (me_ix is_ix (me_var 2) me_int) (ma_cons (me_var 16) (ma_cons (me_tup ma_nil) (ma_cons (me_var 11) ma_nil))))) ma_nil))))
    (mb_one (ms_if (mt_not (mt_val (me_callH h_law_told (hr.mono (by decide)) (ma_cons (me_var 9) (ma_cons (me_var 17) ma_nil))))) (mb_one (ms_ret me_bl)) mb_nil)))))))))
    (mb_one (ms_ret me_bl))))))))))))))))))))
end
end PL
/-! printed by genend.py: the end -/
namespace PL
open PySem PySem.Spec PyProof.Rows L2
abbrev rwL : PySem.W.OpenLaw := PySem.Challenge.rw_sequencesandadvice_k77_sets_parted_and_m
theorem end_mk {w : World} {K : PySem.W.Frag} {h : Heap} {mg : Str → Option Value} {fa : Addr} (X : K.In h) (G : h.Ns mainGlobals mg) (hfa : mg "law" = some (.ref fa))
    {C_BadPath : Addr}
    {C_BadStep : Addr}
    {C_NamesMeet : Addr}
    {f_row_of : Addr} {od_row_of an_row_of : Option Addr} {sl_row_of : Array (Option Value)} {oc_row_of kV_row_of dc_row_of pm_row_of cd_row_of ct_row_of : Value}
    {f_with_row : Addr} {od_with_row an_with_row : Option Addr} {sl_with_row : Array (Option Value)} {oc_with_row kV_with_row dc_with_row pm_with_row cd_with_row ct_with_row : Value}
    {f_without_row : Addr} {od_without_row an_without_row : Option Addr} {sl_without_row : Array (Option Value)} {oc_without_row kV_without_row dc_without_row pm_without_row cd_without_row ct_without_row : Value}
    {f_node_at : Addr} {od_node_at an_node_at : Option Addr} {sl_node_at : Array (Option Value)} {oc_node_at kV_node_at dc_node_at pm_node_at cd_node_at ct_node_at : Value}
    {f_replaced : Addr} {od_replaced an_replaced : Option Addr} {sl_replaced : Array (Option Value)} {oc_replaced kV_replaced dc_replaced pm_replaced cd_replaced ct_replaced : Value}
    {f_above : Addr} {od_above an_above : Option Addr} {sl_above : Array (Option Value)} {oc_above kV_above dc_above pm_above cd_above ct_above : Value}
    {f_paths_of : Addr} {od_paths_of an_paths_of : Option Addr} {sl_paths_of : Array (Option Value)} {oc_paths_of kV_paths_of dc_paths_of pm_paths_of cd_paths_of ct_paths_of : Value}
    {f_parted : Addr} {od_parted an_parted : Option Addr} {sl_parted : Array (Option Value)} {oc_parted kV_parted dc_parted pm_parted cd_parted ct_parted : Value}
    {f_renamed_nodes : Addr} {od_renamed_nodes an_renamed_nodes : Option Addr} {sl_renamed_nodes : Array (Option Value)} {oc_renamed_nodes kV_renamed_nodes dc_renamed_nodes pm_renamed_nodes cd_renamed_nodes ct_renamed_nodes : Value}
    {f_one_way_passes : Addr} {od_one_way_passes an_one_way_passes : Option Addr} {sl_one_way_passes : Array (Option Value)} {oc_one_way_passes kV_one_way_passes dc_one_way_passes pm_one_way_passes cd_one_way_passes ct_one_way_passes : Value}
    {f_mingled : Addr} {od_mingled an_mingled : Option Addr} {sl_mingled : Array (Option Value)} {oc_mingled kV_mingled dc_mingled pm_mingled cd_mingled ct_mingled : Value}
    {f_set_pairs : Addr} {od_set_pairs an_set_pairs : Option Addr} {sl_set_pairs : Array (Option Value)} {oc_set_pairs kV_set_pairs dc_set_pairs pm_set_pairs cd_set_pairs ct_set_pairs : Value}
    {f_law_source : Addr} {od_law_source an_law_source : Option Addr} {sl_law_source : Array (Option Value)} {oc_law_source kV_law_source dc_law_source pm_law_source cd_law_source ct_law_source : Value}
    {f_law_draw : Addr} {od_law_draw an_law_draw : Option Addr} {sl_law_draw : Array (Option Value)} {oc_law_draw kV_law_draw dc_law_draw pm_law_draw cd_law_draw ct_law_draw : Value}
    {f_law_name : Addr} {od_law_name an_law_name : Option Addr} {sl_law_name : Array (Option Value)} {oc_law_name kV_law_name dc_law_name pm_law_name cd_law_name ct_law_name : Value}
    {f_law_gcd : Addr} {od_law_gcd an_law_gcd : Option Addr} {sl_law_gcd : Array (Option Value)} {oc_law_gcd kV_law_gcd dc_law_gcd pm_law_gcd cd_law_gcd ct_law_gcd : Value}
    {f_law_reduced : Addr} {od_law_reduced an_law_reduced : Option Addr} {sl_law_reduced : Array (Option Value)} {oc_law_reduced kV_law_reduced dc_law_reduced pm_law_reduced cd_law_reduced ct_law_reduced : Value}
    {f_law_tree : Addr} {od_law_tree an_law_tree : Option Addr} {sl_law_tree : Array (Option Value)} {oc_law_tree kV_law_tree dc_law_tree pm_law_tree cd_law_tree ct_law_tree : Value}
    {f_law_row : Addr} {od_law_row an_law_row : Option Addr} {sl_law_row : Array (Option Value)} {oc_law_row kV_law_row dc_law_row pm_law_row cd_law_row ct_law_row : Value}
    {f_law_nodes : Addr} {od_law_nodes an_law_nodes : Option Addr} {sl_law_nodes : Array (Option Value)} {oc_law_nodes kV_law_nodes dc_law_nodes pm_law_nodes cd_law_nodes ct_law_nodes : Value}
    {f_law_moved : Addr} {od_law_moved an_law_moved : Option Addr} {sl_law_moved : Array (Option Value)} {oc_law_moved kV_law_moved dc_law_moved pm_law_moved cd_law_moved ct_law_moved : Value}
    {f_law_told : Addr} {od_law_told an_law_told : Option Addr} {sl_law_told : Array (Option Value)} {oc_law_told kV_law_told dc_law_told pm_law_told cd_law_told ct_law_told : Value}
    {f_law_breadth : Addr} {od_law_breadth an_law_breadth : Option Addr} {sl_law_breadth : Array (Option Value)} {oc_law_breadth kV_law_breadth dc_law_breadth pm_law_breadth cd_law_breadth ct_law_breadth : Value}
    {f_law_mark_name : Addr} {od_law_mark_name an_law_mark_name : Option Addr} {sl_law_mark_name : Array (Option Value)} {oc_law_mark_name kV_law_mark_name dc_law_mark_name pm_law_mark_name cd_law_mark_name ct_law_mark_name : Value}
    {f_law_marked_for : Addr} {od_law_marked_for an_law_marked_for : Option Addr} {sl_law_marked_for : Array (Option Value)} {oc_law_marked_for kV_law_marked_for dc_law_marked_for pm_law_marked_for cd_law_marked_for ct_law_marked_for : Value}
    {f_law_told_apart : Addr} {od_law_told_apart an_law_told_apart : Option Addr} {sl_law_told_apart : Array (Option Value)} {oc_law_told_apart kV_law_told_apart dc_law_told_apart pm_law_told_apart cd_law_told_apart ct_law_told_apart : Value}
    {f_law_owned : Addr} {od_law_owned an_law_owned : Option Addr} {sl_law_owned : Array (Option Value)} {oc_law_owned kV_law_owned dc_law_owned pm_law_owned cd_law_owned ct_law_owned : Value}
    {f_law_outcome_names : Addr} {od_law_outcome_names an_law_outcome_names : Option Addr} {sl_law_outcome_names : Array (Option Value)} {oc_law_outcome_names kV_law_outcome_names dc_law_outcome_names pm_law_outcome_names cd_law_outcome_names ct_law_outcome_names : Value}
    {f_law_grown_game : Addr} {od_law_grown_game an_law_grown_game : Option Addr} {sl_law_grown_game : Array (Option Value)} {oc_law_grown_game kV_law_grown_game dc_law_grown_game pm_law_grown_game cd_law_grown_game ct_law_grown_game : Value}
    {f_law_small : Addr} {od_law_small an_law_small : Option Addr} {sl_law_small : Array (Option Value)} {oc_law_small kV_law_small dc_law_small pm_law_small cd_law_small ct_law_small : Value}
    {f_law_own_parted : Addr} {od_law_own_parted an_law_own_parted : Option Addr} {sl_law_own_parted : Array (Option Value)} {oc_law_own_parted kV_law_own_parted dc_law_own_parted pm_law_own_parted cd_law_own_parted ct_law_own_parted : Value}
    {f_law_parted_or : Addr} {od_law_parted_or an_law_parted_or : Option Addr} {sl_law_parted_or : Array (Option Value)} {oc_law_parted_or kV_law_parted_or dc_law_parted_or pm_law_parted_or cd_law_parted_or ct_law_parted_or : Value}
    {f_law_mingled_or : Addr} {od_law_mingled_or an_law_mingled_or : Option Addr} {sl_law_mingled_or : Array (Option Value)} {oc_law_mingled_or kV_law_mingled_or dc_law_mingled_or pm_law_mingled_or cd_law_mingled_or ct_law_mingled_or : Value}
    {f_law_can_mingle : Addr} {od_law_can_mingle an_law_can_mingle : Option Addr} {sl_law_can_mingle : Array (Option Value)} {oc_law_can_mingle kV_law_can_mingle dc_law_can_mingle pm_law_can_mingle cd_law_can_mingle ct_law_can_mingle : Value}
    {f_law : Addr} {od_law an_law : Option Addr} {sl_law : Array (Option Value)} {oc_law kV_law dc_law pm_law cd_law ct_law : Value}
    (z_abs : PySem.W.nsIn K mainGlobals "abs" = some none)
    (z_bool : PySem.W.nsIn K mainGlobals "bool" = some none)
    (z_dict : PySem.W.nsIn K mainGlobals "dict" = some none)
    (z_enumerate : PySem.W.nsIn K mainGlobals "enumerate" = some none)
    (z_int : PySem.W.nsIn K mainGlobals "int" = some none)
    (z_isinstance : PySem.W.nsIn K mainGlobals "isinstance" = some none)
    (z_len : PySem.W.nsIn K mainGlobals "len" = some none)
    (z_list : PySem.W.nsIn K mainGlobals "list" = some none)
    (z_range : PySem.W.nsIn K mainGlobals "range" = some none)
    (z_sorted : PySem.W.nsIn K mainGlobals "sorted" = some none)
    (z_str : PySem.W.nsIn K mainGlobals "str" = some none)
    (z_tuple : PySem.W.nsIn K mainGlobals "tuple" = some none)
    (g_BadPath : PySem.W.nsIn K mainGlobals "BadPath" = some (some (.ref C_BadPath)))
    (g_BadStep : PySem.W.nsIn K mainGlobals "BadStep" = some (some (.ref C_BadStep)))
    (g_NamesMeet : PySem.W.nsIn K mainGlobals "NamesMeet" = some (some (.ref C_NamesMeet)))
    (a_row_of : PySem.W.nsIn K mainGlobals "row_of" = some (some (.ref f_row_of)))
    (l_row_of : K.lookup f_row_of = some ⟨oc_row_of, od_row_of, .func (PySem.W.fnOf "row_of" "row_of" (defArgs s_row_of) (defBody s_row_of) (defScope s_row_of) .none kV_row_of dc_row_of pm_row_of an_row_of cd_row_of ct_row_of), sl_row_of⟩)
    (c_row_of : PySem.W.codeIn K cd_row_of "row_of" = true)
    (k_row_of : PySem.W.keepIn K (.ref f_row_of) = true)
    (a_with_row : PySem.W.nsIn K mainGlobals "with_row" = some (some (.ref f_with_row)))
    (l_with_row : K.lookup f_with_row = some ⟨oc_with_row, od_with_row, .func (PySem.W.fnOf "with_row" "with_row" (defArgs s_with_row) (defBody s_with_row) (defScope s_with_row) .none kV_with_row dc_with_row pm_with_row an_with_row cd_with_row ct_with_row), sl_with_row⟩)
    (c_with_row : PySem.W.codeIn K cd_with_row "with_row" = true)
    (k_with_row : PySem.W.keepIn K (.ref f_with_row) = true)
    (a_without_row : PySem.W.nsIn K mainGlobals "without_row" = some (some (.ref f_without_row)))
    (l_without_row : K.lookup f_without_row = some ⟨oc_without_row, od_without_row, .func (PySem.W.fnOf "without_row" "without_row" (defArgs s_without_row) (defBody s_without_row) (defScope s_without_row) .none kV_without_row dc_without_row pm_without_row an_without_row cd_without_row ct_without_row), sl_without_row⟩)
    (c_without_row : PySem.W.codeIn K cd_without_row "without_row" = true)
    (k_without_row : PySem.W.keepIn K (.ref f_without_row) = true)
    (a_node_at : PySem.W.nsIn K mainGlobals "node_at" = some (some (.ref f_node_at)))
    (l_node_at : K.lookup f_node_at = some ⟨oc_node_at, od_node_at, .func (PySem.W.fnOf "node_at" "node_at" (defArgs s_node_at) (defBody s_node_at) (defScope s_node_at) .none kV_node_at dc_node_at pm_node_at an_node_at cd_node_at ct_node_at), sl_node_at⟩)
    (c_node_at : PySem.W.codeIn K cd_node_at "node_at" = true)
    (k_node_at : PySem.W.keepIn K (.ref f_node_at) = true)
    (a_replaced : PySem.W.nsIn K mainGlobals "replaced" = some (some (.ref f_replaced)))
    (l_replaced : K.lookup f_replaced = some ⟨oc_replaced, od_replaced, .func (PySem.W.fnOf "replaced" "replaced" (defArgs s_replaced) (defBody s_replaced) (defScope s_replaced) .none kV_replaced dc_replaced pm_replaced an_replaced cd_replaced ct_replaced), sl_replaced⟩)
    (c_replaced : PySem.W.codeIn K cd_replaced "replaced" = true)
    (k_replaced : PySem.W.keepIn K (.ref f_replaced) = true)
    (a_above : PySem.W.nsIn K mainGlobals "above" = some (some (.ref f_above)))
    (l_above : K.lookup f_above = some ⟨oc_above, od_above, .func (PySem.W.fnOf "above" "above" (defArgs s_above) (defBody s_above) (defScope s_above) .none kV_above dc_above pm_above an_above cd_above ct_above), sl_above⟩)
    (c_above : PySem.W.codeIn K cd_above "above" = true)
    (k_above : PySem.W.keepIn K (.ref f_above) = true)
    (a_paths_of : PySem.W.nsIn K mainGlobals "paths_of" = some (some (.ref f_paths_of)))
    (l_paths_of : K.lookup f_paths_of = some ⟨oc_paths_of, od_paths_of, .func (PySem.W.fnOf "paths_of" "paths_of" (defArgs s_paths_of) (defBody s_paths_of) (defScope s_paths_of) .none kV_paths_of dc_paths_of pm_paths_of an_paths_of cd_paths_of ct_paths_of), sl_paths_of⟩)
    (c_paths_of : PySem.W.codeIn K cd_paths_of "paths_of" = true)
    (k_paths_of : PySem.W.keepIn K (.ref f_paths_of) = true)
    (a_parted : PySem.W.nsIn K mainGlobals "parted" = some (some (.ref f_parted)))
    (l_parted : K.lookup f_parted = some ⟨oc_parted, od_parted, .func (PySem.W.fnOf "parted" "parted" (defArgs s_parted) (defBody s_parted) (defScope s_parted) .none kV_parted dc_parted pm_parted an_parted cd_parted ct_parted), sl_parted⟩)
    (c_parted : PySem.W.codeIn K cd_parted "parted" = true)
    (k_parted : PySem.W.keepIn K (.ref f_parted) = true)
    (a_renamed_nodes : PySem.W.nsIn K mainGlobals "_renamed_nodes" = some (some (.ref f_renamed_nodes)))
    (l_renamed_nodes : K.lookup f_renamed_nodes = some ⟨oc_renamed_nodes, od_renamed_nodes, .func (PySem.W.fnOf "_renamed_nodes" "_renamed_nodes" (defArgs s_renamed_nodes) (defBody s_renamed_nodes) (defScope s_renamed_nodes) .none kV_renamed_nodes dc_renamed_nodes pm_renamed_nodes an_renamed_nodes cd_renamed_nodes ct_renamed_nodes), sl_renamed_nodes⟩)
    (c_renamed_nodes : PySem.W.codeIn K cd_renamed_nodes "_renamed_nodes" = true)
    (k_renamed_nodes : PySem.W.keepIn K (.ref f_renamed_nodes) = true)
    (a_one_way_passes : PySem.W.nsIn K mainGlobals "_one_way_passes" = some (some (.ref f_one_way_passes)))
    (l_one_way_passes : K.lookup f_one_way_passes = some ⟨oc_one_way_passes, od_one_way_passes, .func (PySem.W.fnOf "_one_way_passes" "_one_way_passes" (defArgs s_one_way_passes) (defBody s_one_way_passes) (defScope s_one_way_passes) .none kV_one_way_passes dc_one_way_passes pm_one_way_passes an_one_way_passes cd_one_way_passes ct_one_way_passes), sl_one_way_passes⟩)
    (c_one_way_passes : PySem.W.codeIn K cd_one_way_passes "_one_way_passes" = true)
    (k_one_way_passes : PySem.W.keepIn K (.ref f_one_way_passes) = true)
    (a_mingled : PySem.W.nsIn K mainGlobals "mingled" = some (some (.ref f_mingled)))
    (l_mingled : K.lookup f_mingled = some ⟨oc_mingled, od_mingled, .func (PySem.W.fnOf "mingled" "mingled" (defArgs s_mingled) (defBody s_mingled) (defScope s_mingled) .none kV_mingled dc_mingled pm_mingled an_mingled cd_mingled ct_mingled), sl_mingled⟩)
    (c_mingled : PySem.W.codeIn K cd_mingled "mingled" = true)
    (k_mingled : PySem.W.keepIn K (.ref f_mingled) = true)
    (a_set_pairs : PySem.W.nsIn K mainGlobals "set_pairs" = some (some (.ref f_set_pairs)))
    (l_set_pairs : K.lookup f_set_pairs = some ⟨oc_set_pairs, od_set_pairs, .func (PySem.W.fnOf "set_pairs" "set_pairs" (defArgs s_set_pairs) (defBody s_set_pairs) (defScope s_set_pairs) .none kV_set_pairs dc_set_pairs pm_set_pairs an_set_pairs cd_set_pairs ct_set_pairs), sl_set_pairs⟩)
    (c_set_pairs : PySem.W.codeIn K cd_set_pairs "set_pairs" = true)
    (k_set_pairs : PySem.W.keepIn K (.ref f_set_pairs) = true)
    (a_law_source : PySem.W.nsIn K mainGlobals "_law_source" = some (some (.ref f_law_source)))
    (l_law_source : K.lookup f_law_source = some ⟨oc_law_source, od_law_source, .func (PySem.W.fnOf "_law_source" "_law_source" (defArgs s_law_source) (defBody s_law_source) (defScope s_law_source) .none kV_law_source dc_law_source pm_law_source an_law_source cd_law_source ct_law_source), sl_law_source⟩)
    (c_law_source : PySem.W.codeIn K cd_law_source "_law_source" = true)
    (k_law_source : PySem.W.keepIn K (.ref f_law_source) = true)
    (a_law_draw : PySem.W.nsIn K mainGlobals "_law_draw" = some (some (.ref f_law_draw)))
    (l_law_draw : K.lookup f_law_draw = some ⟨oc_law_draw, od_law_draw, .func (PySem.W.fnOf "_law_draw" "_law_draw" (defArgs s_law_draw) (defBody s_law_draw) (defScope s_law_draw) .none kV_law_draw dc_law_draw pm_law_draw an_law_draw cd_law_draw ct_law_draw), sl_law_draw⟩)
    (c_law_draw : PySem.W.codeIn K cd_law_draw "_law_draw" = true)
    (k_law_draw : PySem.W.keepIn K (.ref f_law_draw) = true)
    (a_law_name : PySem.W.nsIn K mainGlobals "_law_name" = some (some (.ref f_law_name)))
    (l_law_name : K.lookup f_law_name = some ⟨oc_law_name, od_law_name, .func (PySem.W.fnOf "_law_name" "_law_name" (defArgs s_law_name) (defBody s_law_name) (defScope s_law_name) .none kV_law_name dc_law_name pm_law_name an_law_name cd_law_name ct_law_name), sl_law_name⟩)
    (c_law_name : PySem.W.codeIn K cd_law_name "_law_name" = true)
    (k_law_name : PySem.W.keepIn K (.ref f_law_name) = true)
    (a_law_gcd : PySem.W.nsIn K mainGlobals "_law_gcd" = some (some (.ref f_law_gcd)))
    (l_law_gcd : K.lookup f_law_gcd = some ⟨oc_law_gcd, od_law_gcd, .func (PySem.W.fnOf "_law_gcd" "_law_gcd" (defArgs s_law_gcd) (defBody s_law_gcd) (defScope s_law_gcd) .none kV_law_gcd dc_law_gcd pm_law_gcd an_law_gcd cd_law_gcd ct_law_gcd), sl_law_gcd⟩)
    (c_law_gcd : PySem.W.codeIn K cd_law_gcd "_law_gcd" = true)
    (k_law_gcd : PySem.W.keepIn K (.ref f_law_gcd) = true)
    (a_law_reduced : PySem.W.nsIn K mainGlobals "_law_reduced" = some (some (.ref f_law_reduced)))
    (l_law_reduced : K.lookup f_law_reduced = some ⟨oc_law_reduced, od_law_reduced, .func (PySem.W.fnOf "_law_reduced" "_law_reduced" (defArgs s_law_reduced) (defBody s_law_reduced) (defScope s_law_reduced) .none kV_law_reduced dc_law_reduced pm_law_reduced an_law_reduced cd_law_reduced ct_law_reduced), sl_law_reduced⟩)
    (c_law_reduced : PySem.W.codeIn K cd_law_reduced "_law_reduced" = true)
    (k_law_reduced : PySem.W.keepIn K (.ref f_law_reduced) = true)
    (a_law_tree : PySem.W.nsIn K mainGlobals "_law_tree" = some (some (.ref f_law_tree)))
    (l_law_tree : K.lookup f_law_tree = some ⟨oc_law_tree, od_law_tree, .func (PySem.W.fnOf "_law_tree" "_law_tree" (defArgs s_law_tree) (defBody s_law_tree) (defScope s_law_tree) .none kV_law_tree dc_law_tree pm_law_tree an_law_tree cd_law_tree ct_law_tree), sl_law_tree⟩)
    (c_law_tree : PySem.W.codeIn K cd_law_tree "_law_tree" = true)
    (k_law_tree : PySem.W.keepIn K (.ref f_law_tree) = true)
    (a_law_row : PySem.W.nsIn K mainGlobals "_law_row" = some (some (.ref f_law_row)))
    (l_law_row : K.lookup f_law_row = some ⟨oc_law_row, od_law_row, .func (PySem.W.fnOf "_law_row" "_law_row" (defArgs s_law_row) (defBody s_law_row) (defScope s_law_row) .none kV_law_row dc_law_row pm_law_row an_law_row cd_law_row ct_law_row), sl_law_row⟩)
    (c_law_row : PySem.W.codeIn K cd_law_row "_law_row" = true)
    (k_law_row : PySem.W.keepIn K (.ref f_law_row) = true)
    (a_law_nodes : PySem.W.nsIn K mainGlobals "_law_nodes" = some (some (.ref f_law_nodes)))
    (l_law_nodes : K.lookup f_law_nodes = some ⟨oc_law_nodes, od_law_nodes, .func (PySem.W.fnOf "_law_nodes" "_law_nodes" (defArgs s_law_nodes) (defBody s_law_nodes) (defScope s_law_nodes) .none kV_law_nodes dc_law_nodes pm_law_nodes an_law_nodes cd_law_nodes ct_law_nodes), sl_law_nodes⟩)
    (c_law_nodes : PySem.W.codeIn K cd_law_nodes "_law_nodes" = true)
    (k_law_nodes : PySem.W.keepIn K (.ref f_law_nodes) = true)
    (a_law_moved : PySem.W.nsIn K mainGlobals "_law_moved" = some (some (.ref f_law_moved)))
    (l_law_moved : K.lookup f_law_moved = some ⟨oc_law_moved, od_law_moved, .func (PySem.W.fnOf "_law_moved" "_law_moved" (defArgs s_law_moved) (defBody s_law_moved) (defScope s_law_moved) .none kV_law_moved dc_law_moved pm_law_moved an_law_moved cd_law_moved ct_law_moved), sl_law_moved⟩)
    (c_law_moved : PySem.W.codeIn K cd_law_moved "_law_moved" = true)
    (k_law_moved : PySem.W.keepIn K (.ref f_law_moved) = true)
    (a_law_told : PySem.W.nsIn K mainGlobals "_law_told" = some (some (.ref f_law_told)))
    (l_law_told : K.lookup f_law_told = some ⟨oc_law_told, od_law_told, .func (PySem.W.fnOf "_law_told" "_law_told" (defArgs s_law_told) (defBody s_law_told) (defScope s_law_told) .none kV_law_told dc_law_told pm_law_told an_law_told cd_law_told ct_law_told), sl_law_told⟩)
    (c_law_told : PySem.W.codeIn K cd_law_told "_law_told" = true)
    (k_law_told : PySem.W.keepIn K (.ref f_law_told) = true)
    (a_law_breadth : PySem.W.nsIn K mainGlobals "_law_breadth" = some (some (.ref f_law_breadth)))
    (l_law_breadth : K.lookup f_law_breadth = some ⟨oc_law_breadth, od_law_breadth, .func (PySem.W.fnOf "_law_breadth" "_law_breadth" (defArgs s_law_breadth) (defBody s_law_breadth) (defScope s_law_breadth) .none kV_law_breadth dc_law_breadth pm_law_breadth an_law_breadth cd_law_breadth ct_law_breadth), sl_law_breadth⟩)
    (c_law_breadth : PySem.W.codeIn K cd_law_breadth "_law_breadth" = true)
    (k_law_breadth : PySem.W.keepIn K (.ref f_law_breadth) = true)
    (a_law_mark_name : PySem.W.nsIn K mainGlobals "_law_mark_name" = some (some (.ref f_law_mark_name)))
    (l_law_mark_name : K.lookup f_law_mark_name = some ⟨oc_law_mark_name, od_law_mark_name, .func (PySem.W.fnOf "_law_mark_name" "_law_mark_name" (defArgs s_law_mark_name) (defBody s_law_mark_name) (defScope s_law_mark_name) .none kV_law_mark_name dc_law_mark_name pm_law_mark_name an_law_mark_name cd_law_mark_name ct_law_mark_name), sl_law_mark_name⟩)
    (c_law_mark_name : PySem.W.codeIn K cd_law_mark_name "_law_mark_name" = true)
    (k_law_mark_name : PySem.W.keepIn K (.ref f_law_mark_name) = true)
    (a_law_marked_for : PySem.W.nsIn K mainGlobals "_law_marked_for" = some (some (.ref f_law_marked_for)))
    (l_law_marked_for : K.lookup f_law_marked_for = some ⟨oc_law_marked_for, od_law_marked_for, .func (PySem.W.fnOf "_law_marked_for" "_law_marked_for" (defArgs s_law_marked_for) (defBody s_law_marked_for) (defScope s_law_marked_for) .none kV_law_marked_for dc_law_marked_for pm_law_marked_for an_law_marked_for cd_law_marked_for ct_law_marked_for), sl_law_marked_for⟩)
    (c_law_marked_for : PySem.W.codeIn K cd_law_marked_for "_law_marked_for" = true)
    (k_law_marked_for : PySem.W.keepIn K (.ref f_law_marked_for) = true)
    (a_law_told_apart : PySem.W.nsIn K mainGlobals "_law_told_apart" = some (some (.ref f_law_told_apart)))
    (l_law_told_apart : K.lookup f_law_told_apart = some ⟨oc_law_told_apart, od_law_told_apart, .func (PySem.W.fnOf "_law_told_apart" "_law_told_apart" (defArgs s_law_told_apart) (defBody s_law_told_apart) (defScope s_law_told_apart) .none kV_law_told_apart dc_law_told_apart pm_law_told_apart an_law_told_apart cd_law_told_apart ct_law_told_apart), sl_law_told_apart⟩)
    (c_law_told_apart : PySem.W.codeIn K cd_law_told_apart "_law_told_apart" = true)
    (k_law_told_apart : PySem.W.keepIn K (.ref f_law_told_apart) = true)
    (a_law_owned : PySem.W.nsIn K mainGlobals "_law_owned" = some (some (.ref f_law_owned)))
    (l_law_owned : K.lookup f_law_owned = some ⟨oc_law_owned, od_law_owned, .func (PySem.W.fnOf "_law_owned" "_law_owned" (defArgs s_law_owned) (defBody s_law_owned) (defScope s_law_owned) .none kV_law_owned dc_law_owned pm_law_owned an_law_owned cd_law_owned ct_law_owned), sl_law_owned⟩)
    (c_law_owned : PySem.W.codeIn K cd_law_owned "_law_owned" = true)
    (k_law_owned : PySem.W.keepIn K (.ref f_law_owned) = true)
    (a_law_outcome_names : PySem.W.nsIn K mainGlobals "_law_outcome_names" = some (some (.ref f_law_outcome_names)))
    (l_law_outcome_names : K.lookup f_law_outcome_names = some ⟨oc_law_outcome_names, od_law_outcome_names, .func (PySem.W.fnOf "_law_outcome_names" "_law_outcome_names" (defArgs s_law_outcome_names) (defBody s_law_outcome_names) (defScope s_law_outcome_names) .none kV_law_outcome_names dc_law_outcome_names pm_law_outcome_names an_law_outcome_names cd_law_outcome_names ct_law_outcome_names), sl_law_outcome_names⟩)
    (c_law_outcome_names : PySem.W.codeIn K cd_law_outcome_names "_law_outcome_names" = true)
    (k_law_outcome_names : PySem.W.keepIn K (.ref f_law_outcome_names) = true)
    (a_law_grown_game : PySem.W.nsIn K mainGlobals "_law_grown_game" = some (some (.ref f_law_grown_game)))
    (l_law_grown_game : K.lookup f_law_grown_game = some ⟨oc_law_grown_game, od_law_grown_game, .func (PySem.W.fnOf "_law_grown_game" "_law_grown_game" (defArgs s_law_grown_game) (defBody s_law_grown_game) (defScope s_law_grown_game) .none kV_law_grown_game dc_law_grown_game pm_law_grown_game an_law_grown_game cd_law_grown_game ct_law_grown_game), sl_law_grown_game⟩)
    (c_law_grown_game : PySem.W.codeIn K cd_law_grown_game "_law_grown_game" = true)
    (k_law_grown_game : PySem.W.keepIn K (.ref f_law_grown_game) = true)
    (a_law_small : PySem.W.nsIn K mainGlobals "_law_small" = some (some (.ref f_law_small)))
    (l_law_small : K.lookup f_law_small = some ⟨oc_law_small, od_law_small, .func (PySem.W.fnOf "_law_small" "_law_small" (defArgs s_law_small) (defBody s_law_small) (defScope s_law_small) .none kV_law_small dc_law_small pm_law_small an_law_small cd_law_small ct_law_small), sl_law_small⟩)
    (c_law_small : PySem.W.codeIn K cd_law_small "_law_small" = true)
    (k_law_small : PySem.W.keepIn K (.ref f_law_small) = true)
    (a_law_own_parted : PySem.W.nsIn K mainGlobals "_law_own_parted" = some (some (.ref f_law_own_parted)))
    (l_law_own_parted : K.lookup f_law_own_parted = some ⟨oc_law_own_parted, od_law_own_parted, .func (PySem.W.fnOf "_law_own_parted" "_law_own_parted" (defArgs s_law_own_parted) (defBody s_law_own_parted) (defScope s_law_own_parted) .none kV_law_own_parted dc_law_own_parted pm_law_own_parted an_law_own_parted cd_law_own_parted ct_law_own_parted), sl_law_own_parted⟩)
    (c_law_own_parted : PySem.W.codeIn K cd_law_own_parted "_law_own_parted" = true)
    (k_law_own_parted : PySem.W.keepIn K (.ref f_law_own_parted) = true)
    (a_law_parted_or : PySem.W.nsIn K mainGlobals "_law_parted_or" = some (some (.ref f_law_parted_or)))
    (l_law_parted_or : K.lookup f_law_parted_or = some ⟨oc_law_parted_or, od_law_parted_or, .func (PySem.W.fnOf "_law_parted_or" "_law_parted_or" (defArgs s_law_parted_or) (defBody s_law_parted_or) (defScope s_law_parted_or) .none kV_law_parted_or dc_law_parted_or pm_law_parted_or an_law_parted_or cd_law_parted_or ct_law_parted_or), sl_law_parted_or⟩)
    (c_law_parted_or : PySem.W.codeIn K cd_law_parted_or "_law_parted_or" = true)
    (k_law_parted_or : PySem.W.keepIn K (.ref f_law_parted_or) = true)
    (a_law_mingled_or : PySem.W.nsIn K mainGlobals "_law_mingled_or" = some (some (.ref f_law_mingled_or)))
    (l_law_mingled_or : K.lookup f_law_mingled_or = some ⟨oc_law_mingled_or, od_law_mingled_or, .func (PySem.W.fnOf "_law_mingled_or" "_law_mingled_or" (defArgs s_law_mingled_or) (defBody s_law_mingled_or) (defScope s_law_mingled_or) .none kV_law_mingled_or dc_law_mingled_or pm_law_mingled_or an_law_mingled_or cd_law_mingled_or ct_law_mingled_or), sl_law_mingled_or⟩)
    (c_law_mingled_or : PySem.W.codeIn K cd_law_mingled_or "_law_mingled_or" = true)
    (k_law_mingled_or : PySem.W.keepIn K (.ref f_law_mingled_or) = true)
    (a_law_can_mingle : PySem.W.nsIn K mainGlobals "_law_can_mingle" = some (some (.ref f_law_can_mingle)))
    (l_law_can_mingle : K.lookup f_law_can_mingle = some ⟨oc_law_can_mingle, od_law_can_mingle, .func (PySem.W.fnOf "_law_can_mingle" "_law_can_mingle" (defArgs s_law_can_mingle) (defBody s_law_can_mingle) (defScope s_law_can_mingle) .none kV_law_can_mingle dc_law_can_mingle pm_law_can_mingle an_law_can_mingle cd_law_can_mingle ct_law_can_mingle), sl_law_can_mingle⟩)
    (c_law_can_mingle : PySem.W.codeIn K cd_law_can_mingle "_law_can_mingle" = true)
    (k_law_can_mingle : PySem.W.keepIn K (.ref f_law_can_mingle) = true)
    (a_law : PySem.W.nsIn K mainGlobals "law" = some (some (.ref f_law)))
    (l_law : K.lookup f_law = some ⟨oc_law, od_law, .func (PySem.W.fnOf "law" "law" (defArgs s_law) (defBody s_law) (defScope s_law) .none kV_law dc_law pm_law an_law cd_law ct_law), sl_law⟩)
    (c_law : PySem.W.codeIn K cd_law "law" = true)
    (k_law : PySem.W.keepIn K (.ref f_law) = true)
    (yq_BadPath : PySem.W.excIn K C_BadPath [.type "ValueError", .type "Exception", .type "BaseException", .type "object"] "ValueError.__new__" = true)
    (yk_BadPath : PySem.W.keepIn K (.ref C_BadPath) = true)
    (ye_BadPath : PySem.W.subIn K (.ref C_BadPath) (.type "BaseException") = some true)
    (yt_BadPath : PySem.W.typeIn K (.ref C_BadPath) = some (.type "type"))
    (yq_BadStep : PySem.W.excIn K C_BadStep [.type "ValueError", .type "Exception", .type "BaseException", .type "object"] "ValueError.__new__" = true)
    (yk_BadStep : PySem.W.keepIn K (.ref C_BadStep) = true)
    (ye_BadStep : PySem.W.subIn K (.ref C_BadStep) (.type "BaseException") = some true)
    (yt_BadStep : PySem.W.typeIn K (.ref C_BadStep) = some (.type "type"))
    (yq_NamesMeet : PySem.W.excIn K C_NamesMeet [.type "ValueError", .type "Exception", .type "BaseException", .type "object"] "ValueError.__new__" = true)
    (yk_NamesMeet : PySem.W.keepIn K (.ref C_NamesMeet) = true)
    (ye_NamesMeet : PySem.W.subIn K (.ref C_NamesMeet) (.type "BaseException") = some true)
    (yt_NamesMeet : PySem.W.typeIn K (.ref C_NamesMeet) = some (.type "type"))
    (sep_BadPath_NamesMeet : PySem.W.exmOne K (.ref C_BadPath) (.ref C_NamesMeet) = some false)
    (te_BadPath : PySem.W.exmOne K (.ref C_BadPath) (.ref C_BadPath) = some true)
    (te_BadStep : PySem.W.exmOne K (.ref C_BadStep) (.ref C_BadStep) = some true)
    (te_NamesMeet : PySem.W.exmOne K (.ref C_NamesMeet) (.ref C_NamesMeet) = some true)
    (i0_BadPath : (PySem.W.clsIn K C_BadPath).isSome = true)
    (i1_BadPath : PySem.W.findIn K (.ref C_BadPath) "__getattribute__" = some (some (.builtin "BaseException.__getattribute__")))
    (i2_BadPath : PySem.W.findIn K (.ref C_BadPath) "__getattr__" = some none)
    (i3_BadPath : PySem.W.subIn K (.ref C_BadPath) (.type "BaseException") = some true)
    (i4_BadPath : PySem.W.findIn K (.ref C_BadPath) "__class__" = some (some (.builtin "object.__class__")))
    (i5_BadPath : PySem.W.specialIn K (.builtin "object.__class__") "__get__" = some (some (.builtin "getset_descriptor.__get__")))
    (i6_BadPath : PySem.W.takesIn K (.builtin "object.__class__") = some true)
    (i7_BadPath : PySem.W.mroIn K C_BadPath (.type "object") = some true)
    (i0_BadStep : (PySem.W.clsIn K C_BadStep).isSome = true)
    (i1_BadStep : PySem.W.findIn K (.ref C_BadStep) "__getattribute__" = some (some (.builtin "BaseException.__getattribute__")))
    (i2_BadStep : PySem.W.findIn K (.ref C_BadStep) "__getattr__" = some none)
    (i3_BadStep : PySem.W.subIn K (.ref C_BadStep) (.type "BaseException") = some true)
    (i4_BadStep : PySem.W.findIn K (.ref C_BadStep) "__class__" = some (some (.builtin "object.__class__")))
    (i5_BadStep : PySem.W.specialIn K (.builtin "object.__class__") "__get__" = some (some (.builtin "getset_descriptor.__get__")))
    (i6_BadStep : PySem.W.takesIn K (.builtin "object.__class__") = some true)
    (i7_BadStep : PySem.W.mroIn K C_BadStep (.type "object") = some true)
    (i0_NamesMeet : (PySem.W.clsIn K C_NamesMeet).isSome = true)
    (i1_NamesMeet : PySem.W.findIn K (.ref C_NamesMeet) "__getattribute__" = some (some (.builtin "BaseException.__getattribute__")))
    (i2_NamesMeet : PySem.W.findIn K (.ref C_NamesMeet) "__getattr__" = some none)
    (i3_NamesMeet : PySem.W.subIn K (.ref C_NamesMeet) (.type "BaseException") = some true)
    (i4_NamesMeet : PySem.W.findIn K (.ref C_NamesMeet) "__class__" = some (some (.builtin "object.__class__")))
    (i5_NamesMeet : PySem.W.specialIn K (.builtin "object.__class__") "__get__" = some (some (.builtin "getset_descriptor.__get__")))
    (i6_NamesMeet : PySem.W.takesIn K (.builtin "object.__class__") = some true)
    (i7_NamesMeet : PySem.W.mroIn K C_NamesMeet (.type "object") = some true)
    (kit_BadPath_BadStep : PySem.W.kitOne K (.ref C_BadPath) (.ref C_BadStep) = some false)
    (kit_BadStep_NamesMeet : PySem.W.kitOne K (.ref C_BadStep) (.ref C_NamesMeet) = some false)
    (kit_NamesMeet_BadPath : PySem.W.kitOne K (.ref C_NamesMeet) (.ref C_BadPath) = some false) :
    ∃ fd : FuncData, (∀ (s : Shared) (v : Value), BindsTo s fd ⟨[v], []⟩ [("script", v)]) ∧ ∀ base : Heap, K.In base → base.Ns mainGlobals mg → FnOk rwL.prog w K mg base CX0 65 fa fd ["script"] (spScr K m_law) := by
  have e := hfa.symm.trans (PySem.W.mg_of X G a_law)
  cases e
  have B : Blt mg := { b_abs := PySem.W.mg_none_of X G z_abs, b_bool := PySem.W.mg_none_of X G z_bool, b_dict := PySem.W.mg_none_of X G z_dict, b_enumerate := PySem.W.mg_none_of X G z_enumerate, b_int := PySem.W.mg_none_of X G z_int, b_isinstance := PySem.W.mg_none_of X G z_isinstance, b_len := PySem.W.mg_none_of X G z_len, b_list := PySem.W.mg_none_of X G z_list, b_range := PySem.W.mg_none_of X G z_range, b_sorted := PySem.W.mg_none_of X G z_sorted, b_str := PySem.W.mg_none_of X G z_str, b_tuple := PySem.W.mg_none_of X G z_tuple }
  have d_row_of : DefOf K mg "row_of" s_row_of ["game", "name"] := defOf_mk X G a_row_of l_row_of c_row_of k_row_of fun _ _ _ _ _ _ us hl => match us, hl with | [_, _], _ => rfl
  have d_with_row : DefOf K mg "with_row" s_with_row ["sets", "row"] := defOf_mk X G a_with_row l_with_row c_with_row k_with_row fun _ _ _ _ _ _ us hl => match us, hl with | [_, _], _ => rfl
  have d_without_row : DefOf K mg "without_row" s_without_row ["sets", "name"] := defOf_mk X G a_without_row l_without_row c_without_row k_without_row fun _ _ _ _ _ _ us hl => match us, hl with | [_, _], _ => rfl
  have d_node_at : DefOf K mg "node_at" s_node_at ["tree", "path"] := defOf_mk X G a_node_at l_node_at c_node_at k_node_at fun _ _ _ _ _ _ us hl => match us, hl with | [_, _], _ => rfl
  have d_replaced : DefOf K mg "replaced" s_replaced ["tree", "path", "node"] := defOf_mk X G a_replaced l_replaced c_replaced k_replaced fun _ _ _ _ _ _ us hl => match us, hl with | [_, _, _], _ => rfl
  have d_above : DefOf K mg "above" s_above ["tree", "path"] := defOf_mk X G a_above l_above c_above k_above fun _ _ _ _ _ _ us hl => match us, hl with | [_, _], _ => rfl
  have d_paths_of : DefOf K mg "paths_of" s_paths_of ["tree", "name"] := defOf_mk X G a_paths_of l_paths_of c_paths_of k_paths_of fun _ _ _ _ _ _ us hl => match us, hl with | [_, _], _ => rfl
  have d_parted : DefOf K mg "parted" s_parted ["game", "name", "paths", "new"] := defOf_mk X G a_parted l_parted c_parted k_parted fun _ _ _ _ _ _ us hl => match us, hl with | [_, _, _, _], _ => rfl
  have d_renamed_nodes : DefOf K mg "_renamed_nodes" s_renamed_nodes ["tree", "other", "name"] := defOf_mk X G a_renamed_nodes l_renamed_nodes c_renamed_nodes k_renamed_nodes fun _ _ _ _ _ _ us hl => match us, hl with | [_, _, _], _ => rfl
  have d_one_way_passes : DefOf K mg "_one_way_passes" s_one_way_passes ["game", "name", "other"] := defOf_mk X G a_one_way_passes l_one_way_passes c_one_way_passes k_one_way_passes fun _ _ _ _ _ _ us hl => match us, hl with | [_, _, _], _ => rfl
  have d_mingled : DefOf K mg "mingled" s_mingled ["game", "name", "other"] := defOf_mk X G a_mingled l_mingled c_mingled k_mingled fun _ _ _ _ _ _ us hl => match us, hl with | [_, _, _], _ => rfl
  have d_set_pairs : DefOf K mg "set_pairs" s_set_pairs ["game"] := defOf_mk X G a_set_pairs l_set_pairs c_set_pairs k_set_pairs fun _ _ _ _ _ _ us hl => match us, hl with | [_], _ => rfl
  have d_law_source : DefOf K mg "_law_source" s_law_source ["script"] := defOf_mk X G a_law_source l_law_source c_law_source k_law_source fun _ _ _ _ _ _ us hl => match us, hl with | [_], _ => rfl
  have d_law_draw : DefOf K mg "_law_draw" s_law_draw ["script", "source", "limit"] := defOf_mk X G a_law_draw l_law_draw c_law_draw k_law_draw fun _ _ _ _ _ _ us hl => match us, hl with | [_, _, _], _ => rfl
  have d_law_name : DefOf K mg "_law_name" s_law_name ["script", "source", "used"] := defOf_mk X G a_law_name l_law_name c_law_name k_law_name fun _ _ _ _ _ _ us hl => match us, hl with | [_, _, _], _ => rfl
  have d_law_gcd : DefOf K mg "_law_gcd" s_law_gcd ["a", "b"] := defOf_mk X G a_law_gcd l_law_gcd c_law_gcd k_law_gcd fun _ _ _ _ _ _ us hl => match us, hl with | [_, _], _ => rfl
  have d_law_reduced : DefOf K mg "_law_reduced" s_law_reduced ["weights"] := defOf_mk X G a_law_reduced l_law_reduced c_law_reduced k_law_reduced fun _ _ _ _ _ _ us hl => match us, hl with | [_], _ => rfl
  have d_law_tree : DefOf K mg "_law_tree" s_law_tree ["script", "source", "free", "outcomes", "room", "wish"] := defOf_mk X G a_law_tree l_law_tree c_law_tree k_law_tree fun _ _ _ _ _ _ us hl => match us, hl with | [_, _, _, _, _, _], _ => rfl
  have d_law_row : DefOf K mg "_law_row" s_law_row ["rows", "name"] := defOf_mk X G a_law_row l_law_row c_law_row k_law_row fun _ _ _ _ _ _ us hl => match us, hl with | [_, _], _ => rfl
  have d_law_nodes : DefOf K mg "_law_nodes" s_law_nodes ["tree", "path", "pairs"] := defOf_mk X G a_law_nodes l_law_nodes c_law_nodes k_law_nodes fun _ _ _ _ _ _ us hl => match us, hl with | [_, _, _], _ => rfl
  have d_law_moved : DefOf K mg "_law_moved" s_law_moved ["tree", "name", "order", "new"] := defOf_mk X G a_law_moved l_law_moved c_law_moved k_law_moved fun _ _ _ _ _ _ us hl => match us, hl with | [_, _, _, _], _ => rfl
  have d_law_told : DefOf K mg "_law_told" s_law_told ["answer", "due"] := defOf_mk X G a_law_told l_law_told c_law_told k_law_told fun _ _ _ _ _ _ us hl => match us, hl with | [_, _], _ => rfl
  have d_law_breadth : DefOf K mg "_law_breadth" s_law_breadth ["rows"] := defOf_mk X G a_law_breadth l_law_breadth c_law_breadth k_law_breadth fun _ _ _ _ _ _ us hl => match us, hl with | [_], _ => rfl
  have d_law_mark_name : DefOf K mg "_law_mark_name" s_law_mark_name ["who", "number"] := defOf_mk X G a_law_mark_name l_law_mark_name c_law_mark_name k_law_mark_name fun _ _ _ _ _ _ us hl => match us, hl with | [_, _], _ => rfl
  have d_law_marked_for : DefOf K mg "_law_marked_for" s_law_marked_for ["rows", "tree", "who", "past", "marks"] := defOf_mk X G a_law_marked_for l_law_marked_for c_law_marked_for k_law_marked_for fun _ _ _ _ _ _ us hl => match us, hl with | [_, _, _, _, _], _ => rfl
  have d_law_told_apart : DefOf K mg "_law_told_apart" s_law_told_apart ["game", "who"] := defOf_mk X G a_law_told_apart l_law_told_apart c_law_told_apart k_law_told_apart fun _ _ _ _ _ _ us hl => match us, hl with | [_, _], _ => rfl
  have d_law_owned : DefOf K mg "_law_owned" s_law_owned ["script", "source", "owners", "most"] := defOf_mk X G a_law_owned l_law_owned c_law_owned k_law_owned fun _ _ _ _ _ _ us hl => match us, hl with | [_, _, _, _], _ => rfl
  have d_law_outcome_names : DefOf K mg "_law_outcome_names" s_law_outcome_names ["script", "source", "least", "more"] := defOf_mk X G a_law_outcome_names l_law_outcome_names c_law_outcome_names k_law_outcome_names fun _ _ _ _ _ _ us hl => match us, hl with | [_, _, _, _], _ => rfl
  have d_law_grown_game : DefOf K mg "_law_grown_game" s_law_grown_game ["script", "source", "owners", "most", "nodes"] := defOf_mk X G a_law_grown_game l_law_grown_game c_law_grown_game k_law_grown_game fun _ _ _ _ _ _ us hl => match us, hl with | [_, _, _, _, _], _ => rfl
  have d_law_small : DefOf K mg "_law_small" s_law_small ["script", "source", "most"] := defOf_mk X G a_law_small l_law_small c_law_small k_law_small fun _ _ _ _ _ _ us hl => match us, hl with | [_, _, _], _ => rfl
  have d_law_own_parted : DefOf K mg "_law_own_parted" s_law_own_parted ["tree", "path", "paths", "new"] := defOf_mk X G a_law_own_parted l_law_own_parted c_law_own_parted k_law_own_parted fun _ _ _ _ _ _ us hl => match us, hl with | [_, _, _, _], _ => rfl
  have d_law_parted_or : DefOf K mg "_law_parted_or" s_law_parted_or ["game", "name", "paths", "new"] := defOf_mk X G a_law_parted_or l_law_parted_or c_law_parted_or k_law_parted_or fun _ _ _ _ _ _ us hl => match us, hl with | [_, _, _, _], _ => rfl
  have d_law_mingled_or : DefOf K mg "_law_mingled_or" s_law_mingled_or ["game", "name", "other"] := defOf_mk X G a_law_mingled_or l_law_mingled_or c_law_mingled_or k_law_mingled_or fun _ _ _ _ _ _ us hl => match us, hl with | [_, _, _], _ => rfl
  have d_law_can_mingle : DefOf K mg "_law_can_mingle" s_law_can_mingle ["game", "name", "other"] := defOf_mk X G a_law_can_mingle l_law_can_mingle c_law_can_mingle k_law_can_mingle fun _ _ _ _ _ _ us hl => match us, hl with | [_, _, _], _ => rfl
  have d_law : DefOf K mg "law" s_law ["script"] := defOf_mk X G a_law l_law c_law k_law fun _ _ _ _ _ _ us hl => match us, hl with | [_], _ => rfl
  have x_BadPath : X0 K mg "BadPath" C_BadPath := ⟨PySem.W.mg_of X G g_BadPath, yq_BadPath, yk_BadPath, ye_BadPath, yt_BadPath⟩
  have x_BadStep : X0 K mg "BadStep" C_BadStep := ⟨PySem.W.mg_of X G g_BadStep, yq_BadStep, yk_BadStep, ye_BadStep, yt_BadStep⟩
  have x_NamesMeet : X0 K mg "NamesMeet" C_NamesMeet := ⟨PySem.W.mg_of X G g_NamesMeet, yq_NamesMeet, yk_NamesMeet, ye_NamesMeet, yt_NamesMeet⟩
  have is_BadPath : IsC K C_BadPath := ⟨i0_BadPath, i1_BadPath, i2_BadPath, i3_BadPath, i4_BadPath, i5_BadPath, i6_BadPath, i7_BadPath⟩
  have is_BadStep : IsC K C_BadStep := ⟨i0_BadStep, i1_BadStep, i2_BadStep, i3_BadStep, i4_BadStep, i5_BadStep, i6_BadStep, i7_BadStep⟩
  have is_NamesMeet : IsC K C_NamesMeet := ⟨i0_NamesMeet, i1_NamesMeet, i2_NamesMeet, i3_NamesMeet, i4_NamesMeet, i5_NamesMeet, i6_NamesMeet, i7_NamesMeet⟩
  have T : ∀ base : Heap, Has rwL.prog w K mg base "law" ["script"] 65 m_law := fun base => by
    have h_row_of := has_row_of (P := rwL.prog) (w := w) (base := base) B d_row_of
    have h_with_row := has_with_row (P := rwL.prog) (w := w) (base := base) B d_with_row
    have h_without_row := has_without_row (P := rwL.prog) (w := w) (base := base) B d_without_row
    have h_node_at := has_node_at (P := rwL.prog) (w := w) (base := base) B d_node_at
    have h_replaced := has_replaced (P := rwL.prog) (w := w) (base := base) B d_replaced
    have h_above := has_above (P := rwL.prog) (w := w) (base := base) B d_above
    have h_paths_of := has_paths_of (P := rwL.prog) (w := w) (base := base) B d_paths_of
    have h_parted := has_parted (P := rwL.prog) (w := w) (base := base) B d_parted (x_BadPath := x_BadPath) (x_NamesMeet := x_NamesMeet) (h_row_of := h_row_of) (h_with_row := h_with_row) (h_node_at := h_node_at) (h_replaced := h_replaced) (h_paths_of := h_paths_of)
    have h_renamed_nodes := has_renamed_nodes (P := rwL.prog) (w := w) (base := base) B d_renamed_nodes
    have h_one_way_passes := has_one_way_passes (P := rwL.prog) (w := w) (base := base) B d_one_way_passes (h_above := h_above) (h_paths_of := h_paths_of)
    have h_mingled := has_mingled (P := rwL.prog) (w := w) (base := base) B d_mingled (x_BadStep := x_BadStep) (h_row_of := h_row_of) (h_without_row := h_without_row) (h_renamed_nodes := h_renamed_nodes) (h_one_way_passes := h_one_way_passes)
    have h_set_pairs := has_set_pairs (P := rwL.prog) (w := w) (base := base) B d_set_pairs (h_one_way_passes := h_one_way_passes)
    have h_law_source := has_law_source (P := rwL.prog) (w := w) (base := base) B d_law_source
    have h_law_draw := has_law_draw (P := rwL.prog) (w := w) (base := base) B d_law_draw
    have h_law_name := has_law_name (P := rwL.prog) (w := w) (base := base) B d_law_name (h_law_draw := h_law_draw)
    have h_law_gcd := has_law_gcd (P := rwL.prog) (w := w) (base := base) B d_law_gcd
    have h_law_reduced := has_law_reduced (P := rwL.prog) (w := w) (base := base) B d_law_reduced (h_law_gcd := h_law_gcd)
    have h_law_tree := has_law_tree (P := rwL.prog) (w := w) (base := base) B d_law_tree (h_law_draw := h_law_draw)
    have h_law_row := has_law_row (P := rwL.prog) (w := w) (base := base) B d_law_row
    have h_law_nodes := has_law_nodes (P := rwL.prog) (w := w) (base := base) B d_law_nodes
    have h_law_moved := has_law_moved (P := rwL.prog) (w := w) (base := base) B d_law_moved
    have h_law_told := has_law_told (P := rwL.prog) (w := w) (base := base) B d_law_told
    have h_law_breadth := has_law_breadth (P := rwL.prog) (w := w) (base := base) B d_law_breadth
    have h_law_mark_name := has_law_mark_name (P := rwL.prog) (w := w) (base := base) B d_law_mark_name
    have h_law_marked_for := has_law_marked_for (P := rwL.prog) (w := w) (base := base) B d_law_marked_for (h_law_row := h_law_row) (h_law_mark_name := h_law_mark_name)
    have h_law_told_apart := has_law_told_apart (P := rwL.prog) (w := w) (base := base) B d_law_told_apart (h_law_row := h_law_row) (h_law_mark_name := h_law_mark_name) (h_law_marked_for := h_law_marked_for)
    have h_law_owned := has_law_owned (P := rwL.prog) (w := w) (base := base) B d_law_owned (h_law_draw := h_law_draw) (h_law_name := h_law_name) (h_law_reduced := h_law_reduced)
    have h_law_outcome_names := has_law_outcome_names (P := rwL.prog) (w := w) (base := base) B d_law_outcome_names (h_law_draw := h_law_draw) (h_law_name := h_law_name)
    have h_law_grown_game := has_law_grown_game (P := rwL.prog) (w := w) (base := base) B d_law_grown_game (h_law_draw := h_law_draw) (h_law_tree := h_law_tree) (h_law_owned := h_law_owned) (h_law_outcome_names := h_law_outcome_names)
    have h_law_small := has_law_small (P := rwL.prog) (w := w) (base := base) B d_law_small (h_law_draw := h_law_draw) (h_law_breadth := h_law_breadth) (h_law_told_apart := h_law_told_apart) (h_law_grown_game := h_law_grown_game)
    have h_law_own_parted := has_law_own_parted (P := rwL.prog) (w := w) (base := base) B d_law_own_parted
    have h_law_parted_or := has_law_parted_or (P := rwL.prog) (w := w) (base := base) B d_law_parted_or (x_BadPath := x_BadPath) (x_NamesMeet := x_NamesMeet) (sep_BadPath_NamesMeet := sep_BadPath_NamesMeet) (te_BadPath := te_BadPath) (te_NamesMeet := te_NamesMeet) (is_BadPath := is_BadPath) (is_NamesMeet := is_NamesMeet) (g_BadPath := PySem.W.mg_of X G g_BadPath) (g_BadStep := PySem.W.mg_of X G g_BadStep) (k_BadPath_BadStep := kit_BadPath_BadStep) (k_NamesMeet_BadPath := kit_NamesMeet_BadPath) (h_parted := h_parted)
    have h_law_mingled_or := has_law_mingled_or (P := rwL.prog) (w := w) (base := base) B d_law_mingled_or (x_BadStep := x_BadStep) (te_BadStep := te_BadStep) (is_BadStep := is_BadStep) (g_NamesMeet := PySem.W.mg_of X G g_NamesMeet) (k_BadStep_NamesMeet := kit_BadStep_NamesMeet) (h_mingled := h_mingled)
    have h_law_can_mingle := has_law_can_mingle (P := rwL.prog) (w := w) (base := base) B d_law_can_mingle (h_law_row := h_law_row) (h_law_nodes := h_law_nodes)
    have h_law := has_law (P := rwL.prog) (w := w) (base := base) B d_law (h_set_pairs := h_set_pairs) (h_law_source := h_law_source) (h_law_draw := h_law_draw) (h_law_name := h_law_name) (h_law_nodes := h_law_nodes) (h_law_moved := h_law_moved) (h_law_told := h_law_told) (h_law_small := h_law_small) (h_law_own_parted := h_law_own_parted) (h_law_parted_or := h_law_parted_or) (h_law_mingled_or := h_law_mingled_or) (h_law_can_mingle := h_law_can_mingle)
    exact h_law
  refine ⟨PySem.W.fnOf "law" "law" (defArgs s_law) (defBody s_law) (defScope s_law) .none kV_law dc_law pm_law an_law cd_law ct_law, fun s v => .of_eq rfl, fun base _ _ => ?_⟩
  obtain ⟨f, fd, ok, hm, _, _, fdat⟩ := (T base).ex
  have e2 := hm.symm.trans (PySem.W.mg_of X G a_law)
  cases e2
  obtain rfl := fdat.inj ⟨_, _, _, l_law⟩
  exact FnOk_scr ok law_ok
end PL
/-! printed by genend.py: the end -/
open PySem PySem.W PyProof.Rows
set_option maxRecDepth 100000 in
set_option maxHeartbeats 0 in
theorem PySem.Challenge.cw_sequencesandadvice_k77_sets_parted_and_m_holds : PySem.Challenge.rw_sequencesandadvice_k77_sets_parted_and_m.Holds := by
  w_on; o_law; k_head; (case hw => w_witness2)
  k_fill
  refine PL.walk_scr (k := 65) (m := PL.m_law) (l := PySem.Challenge.rw_sequencesandadvice_k77_sets_parted_and_m) rfl rfl ⟨rfl, by decide, by decide⟩ (fun w h Y => PySem.W.kIn_of Y) ?F
  case F =>
    intro w mg fa h KX G hmg
    refine' PL.end_mk KX G hmg ?z_abs ?z_bool ?z_dict ?z_enumerate ?z_int ?z_isinstance ?z_len ?z_list ?z_range ?z_sorted ?z_str ?z_tuple ?g_BadPath ?g_BadStep ?g_NamesMeet ?a_row_of ?l_row_of ?c_row_of ?k_row_of ?a_with_row ?l_with_row ?c_with_row ?k_with_row ?a_without_row ?l_without_row ?c_without_row ?k_without_row ?a_node_at ?l_node_at ?c_node_at ?k_node_at ?a_replaced ?l_replaced ?c_replaced ?k_replaced ?a_above ?l_above ?c_above ?k_above ?a_paths_of ?l_paths_of ?c_paths_of ?k_paths_of ?a_parted ?l_parted ?c_parted ?k_parted ?a_renamed_nodes ?l_renamed_nodes ?c_renamed_nodes ?k_renamed_nodes ?a_one_way_passes ?l_one_way_passes ?c_one_way_passes ?k_one_way_passes ?a_mingled ?l_mingled ?c_mingled ?k_mingled ?a_set_pairs ?l_set_pairs ?c_set_pairs ?k_set_pairs ?a_law_source ?l_law_source ?c_law_source ?k_law_source ?a_law_draw ?l_law_draw ?c_law_draw ?k_law_draw ?a_law_name ?l_law_name ?c_law_name ?k_law_name ?a_law_gcd ?l_law_gcd ?c_law_gcd ?k_law_gcd ?a_law_reduced ?l_law_reduced ?c_law_reduced ?k_law_reduced ?a_law_tree ?l_law_tree ?c_law_tree ?k_law_tree ?a_law_row ?l_law_row ?c_law_row ?k_law_row ?a_law_nodes ?l_law_nodes ?c_law_nodes ?k_law_nodes ?a_law_moved ?l_law_moved ?c_law_moved ?k_law_moved ?a_law_told ?l_law_told ?c_law_told ?k_law_told ?a_law_breadth ?l_law_breadth ?c_law_breadth ?k_law_breadth ?a_law_mark_name ?l_law_mark_name ?c_law_mark_name ?k_law_mark_name ?a_law_marked_for ?l_law_marked_for ?c_law_marked_for ?k_law_marked_for ?a_law_told_apart ?l_law_told_apart ?c_law_told_apart ?k_law_told_apart ?a_law_owned ?l_law_owned ?c_law_owned ?k_law_owned ?a_law_outcome_names ?l_law_outcome_names ?c_law_outcome_names ?k_law_outcome_names ?a_law_grown_game ?l_law_grown_game ?c_law_grown_game ?k_law_grown_game ?a_law_small ?l_law_small ?c_law_small ?k_law_small ?a_law_own_parted ?l_law_own_parted ?c_law_own_parted ?k_law_own_parted ?a_law_parted_or ?l_law_parted_or ?c_law_parted_or ?k_law_parted_or ?a_law_mingled_or ?l_law_mingled_or ?c_law_mingled_or ?k_law_mingled_or ?a_law_can_mingle ?l_law_can_mingle ?c_law_can_mingle ?k_law_can_mingle ?a_law ?l_law ?c_law ?k_law ?yq_BadPath ?yk_BadPath ?ye_BadPath ?yt_BadPath ?yq_BadStep ?yk_BadStep ?ye_BadStep ?yt_BadStep ?yq_NamesMeet ?yk_NamesMeet ?ye_NamesMeet ?yt_NamesMeet ?sep_BadPath_NamesMeet ?te_BadPath ?te_BadStep ?te_NamesMeet ?i0_BadPath ?i1_BadPath ?i2_BadPath ?i3_BadPath ?i4_BadPath ?i5_BadPath ?i6_BadPath ?i7_BadPath ?i0_BadStep ?i1_BadStep ?i2_BadStep ?i3_BadStep ?i4_BadStep ?i5_BadStep ?i6_BadStep ?i7_BadStep ?i0_NamesMeet ?i1_NamesMeet ?i2_NamesMeet ?i3_NamesMeet ?i4_NamesMeet ?i5_NamesMeet ?i6_NamesMeet ?i7_NamesMeet ?kit_BadPath_BadStep ?kit_BadStep_NamesMeet ?kit_NamesMeet_BadPath
    (case z_abs => k_is)
    (case z_bool => k_is)
    (case z_dict => k_is)
    (case z_enumerate => k_is)
    (case z_int => k_is)
    (case z_isinstance => k_is)
    (case z_len => k_is)
    (case z_list => k_is)
    (case z_range => k_is)
    (case z_sorted => k_is)
    (case z_str => k_is)
    (case z_tuple => k_is)
    (case g_BadPath => k_is)
    (case g_BadStep => k_is)
    (case g_NamesMeet => k_is)
    (case a_row_of => k_is)
    (case l_row_of => k_is)
    (case c_row_of => k_is)
    (case k_row_of => k_is)
    (case a_with_row => k_is)
    (case l_with_row => k_is)
    (case c_with_row => k_is)
    (case k_with_row => k_is)
    (case a_without_row => k_is)
    (case l_without_row => k_is)
    (case c_without_row => k_is)
    (case k_without_row => k_is)
    (case a_node_at => k_is)
    (case l_node_at => k_is)
    (case c_node_at => k_is)
    (case k_node_at => k_is)
    (case a_replaced => k_is)
    (case l_replaced => k_is)
    (case c_replaced => k_is)
    (case k_replaced => k_is)
    (case a_above => k_is)
    (case l_above => k_is)
    (case c_above => k_is)
    (case k_above => k_is)
    (case a_paths_of => k_is)
    (case l_paths_of => k_is)
    (case c_paths_of => k_is)
    (case k_paths_of => k_is)
    (case a_parted => k_is)
    (case l_parted => k_is)
    (case c_parted => k_is)
    (case k_parted => k_is)
    (case a_renamed_nodes => k_is)
    (case l_renamed_nodes => k_is)
    (case c_renamed_nodes => k_is)
    (case k_renamed_nodes => k_is)
    (case a_one_way_passes => k_is)
    (case l_one_way_passes => k_is)
    (case c_one_way_passes => k_is)
    (case k_one_way_passes => k_is)
    (case a_mingled => k_is)
    (case l_mingled => k_is)
    (case c_mingled => k_is)
    (case k_mingled => k_is)
    (case a_set_pairs => k_is)
    (case l_set_pairs => k_is)
    (case c_set_pairs => k_is)
    (case k_set_pairs => k_is)
    (case a_law_source => k_is)
    (case l_law_source => k_is)
    (case c_law_source => k_is)
    (case k_law_source => k_is)
    (case a_law_draw => k_is)
    (case l_law_draw => k_is)
    (case c_law_draw => k_is)
    (case k_law_draw => k_is)
    (case a_law_name => k_is)
    (case l_law_name => k_is)
    (case c_law_name => k_is)
    (case k_law_name => k_is)
    (case a_law_gcd => k_is)
    (case l_law_gcd => k_is)
    (case c_law_gcd => k_is)
    (case k_law_gcd => k_is)
    (case a_law_reduced => k_is)
    (case l_law_reduced => k_is)
    (case c_law_reduced => k_is)
    (case k_law_reduced => k_is)
    (case a_law_tree => k_is)
    (case l_law_tree => k_is)
    (case c_law_tree => k_is)
    (case k_law_tree => k_is)
    (case a_law_row => k_is)
    (case l_law_row => k_is)
    (case c_law_row => k_is)
    (case k_law_row => k_is)
    (case a_law_nodes => k_is)
    (case l_law_nodes => k_is)
    (case c_law_nodes => k_is)
    (case k_law_nodes => k_is)
    (case a_law_moved => k_is)
    (case l_law_moved => k_is)
    (case c_law_moved => k_is)
    (case k_law_moved => k_is)
    (case a_law_told => k_is)
    (case l_law_told => k_is)
    (case c_law_told => k_is)
    (case k_law_told => k_is)
    (case a_law_breadth => k_is)
    (case l_law_breadth => k_is)
    (case c_law_breadth => k_is)
    (case k_law_breadth => k_is)
    (case a_law_mark_name => k_is)
    (case l_law_mark_name => k_is)
    (case c_law_mark_name => k_is)
    (case k_law_mark_name => k_is)
    (case a_law_marked_for => k_is)
    (case l_law_marked_for => k_is)
    (case c_law_marked_for => k_is)
    (case k_law_marked_for => k_is)
    (case a_law_told_apart => k_is)
    (case l_law_told_apart => k_is)
    (case c_law_told_apart => k_is)
    (case k_law_told_apart => k_is)
    (case a_law_owned => k_is)
    (case l_law_owned => k_is)
    (case c_law_owned => k_is)
    (case k_law_owned => k_is)
    (case a_law_outcome_names => k_is)
    (case l_law_outcome_names => k_is)
    (case c_law_outcome_names => k_is)
    (case k_law_outcome_names => k_is)
    (case a_law_grown_game => k_is)
    (case l_law_grown_game => k_is)
    (case c_law_grown_game => k_is)
    (case k_law_grown_game => k_is)
    (case a_law_small => k_is)
    (case l_law_small => k_is)
    (case c_law_small => k_is)
    (case k_law_small => k_is)
    (case a_law_own_parted => k_is)
    (case l_law_own_parted => k_is)
    (case c_law_own_parted => k_is)
    (case k_law_own_parted => k_is)
    (case a_law_parted_or => k_is)
    (case l_law_parted_or => k_is)
    (case c_law_parted_or => k_is)
    (case k_law_parted_or => k_is)
    (case a_law_mingled_or => k_is)
    (case l_law_mingled_or => k_is)
    (case c_law_mingled_or => k_is)
    (case k_law_mingled_or => k_is)
    (case a_law_can_mingle => k_is)
    (case l_law_can_mingle => k_is)
    (case c_law_can_mingle => k_is)
    (case k_law_can_mingle => k_is)
    (case a_law => k_is)
    (case l_law => k_is)
    (case c_law => k_is)
    (case k_law => k_is)
    (case yq_BadPath => kernel_rfl)
    (case yk_BadPath => k_is)
    (case ye_BadPath => k_is)
    (case yt_BadPath => k_is)
    (case yq_BadStep => kernel_rfl)
    (case yk_BadStep => k_is)
    (case ye_BadStep => k_is)
    (case yt_BadStep => k_is)
    (case yq_NamesMeet => kernel_rfl)
    (case yk_NamesMeet => k_is)
    (case ye_NamesMeet => k_is)
    (case yt_NamesMeet => k_is)
    (case sep_BadPath_NamesMeet => kernel_rfl)
    (case te_BadPath => kernel_rfl)
    (case te_BadStep => kernel_rfl)
    (case te_NamesMeet => kernel_rfl)
    (case i0_BadPath => kernel_rfl)
    (case i1_BadPath => k_is)
    (case i2_BadPath => k_is)
    (case i3_BadPath => k_is)
    (case i4_BadPath => k_is)
    (case i5_BadPath => k_is)
    (case i6_BadPath => k_is)
    (case i7_BadPath => k_is)
    (case i0_BadStep => kernel_rfl)
    (case i1_BadStep => k_is)
    (case i2_BadStep => k_is)
    (case i3_BadStep => k_is)
    (case i4_BadStep => k_is)
    (case i5_BadStep => k_is)
    (case i6_BadStep => k_is)
    (case i7_BadStep => k_is)
    (case i0_NamesMeet => kernel_rfl)
    (case i1_NamesMeet => k_is)
    (case i2_NamesMeet => k_is)
    (case i3_NamesMeet => k_is)
    (case i4_NamesMeet => k_is)
    (case i5_NamesMeet => k_is)
    (case i6_NamesMeet => k_is)
    (case i7_NamesMeet => k_is)
    (case kit_BadPath_BadStep => kernel_rfl)
    (case kit_BadStep_NamesMeet => kernel_rfl)
    (case kit_NamesMeet_BadPath => kernel_rfl)
