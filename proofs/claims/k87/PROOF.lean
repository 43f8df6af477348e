import PyProof.Rows.All
import Wide.All
import OpenK.AllK
import Wide.FinOn
import HandS.ForMost
import HandS.Exc
import HandS.WordsExc
import HandS.ExcSuper
import HandS.ExcIs
import HandS.ExcField
import KE.KSuper
import KE.KExcSuper
import HandS.TupAny
import HandS.TupMul
import HandS.Wide
import HandS.WideBits
import HandS.Gcd
import HandS.IsInst
import HandS.Walk
import KE.DataEq
import KE.DataCmp
import KE.DataMinMax
import KE.SortData
import KE.GoesEnum
import HandS.ExcInit
import HandS.TryOnly
import KE.KExcIs
import HandS.Ends
import KE.KxText
import PySem.Challenge.RW_sequencesandadvice_k87_first_fault
set_option Elab.async false
set_option linter.all false
set_option maxRecDepth 100000
set_option maxHeartbeats 4000000
/-! PL, part x: an own error class over ValueError whose __init__ says super().__init__('..'); self.f = f -/
namespace PLX
open PySem PySem.W PySem.Calls PySem.Spec PyProof.Rows PySem.HandSPX
section
variable {prog : Program} {w : World} {A : Around} {E : Value → Shared → Prop} {h : Heap} {g : Array GenState} {d : Drawn} {t : Nat} {os : OsState}
variable {nm q : Str} {C N : Addr} {bs bm : List Value} {hdct : Bool} {sn : List Str} {sub : List Value} {ab : Bool} {col : Option Bool} {dd : Option Addr} {k0 k1 k2 k3 k5 : Option Value}
/-- the bound ValueError.__init__ called -/
theorem call_mw {u e t0 : Addr} {rest : List Value} {Q : Value → Shared → Prop} (hm : refsVE bm = true)
    (hC : h.get? C = some (excClassObj nm q C N bs bm hdct sn sub ab col dd k0 k1 k2 k3 k5 "ValueError.__new__")) (he : h.get? e = some (excO C t0)) (hu : h.get? u = some (kxs_mw "ValueError.__init__" e)) (hrest : rest.length ≤ sizeLine)
    (hq : ∀ h' t1, (∀ b o, b ≠ e → h.get? b = some o → h'.get? b = some o) → h'.get? e = some (excO C t1) → Q .none ⟨h', g, d, t, os⟩) :
    wpAny (model prog w) A (call (.ref u) rest) Q E ⟨h, g, d, t, os⟩ := by
  refine wpAny_call (codeAny_of_tree ?_)
  show wpAny _ A.in1 (callAny (.ref u) ⟨rest, []⟩) _ _ _
  simp only [callAny]
  refine wpAny_bind (wpAny_load hu ?_)
  simp only [kxs_mw, show (Value.type "method-wrapper" == Value.type "method" || Value.type "method-wrapper" == Value.type "builtin_function_or_method" || Value.type "method-wrapper" == Value.type "method-wrapper") = true by decide, if_true]
  refine KFB.if_so (by decide) ?_
  refine wpAny_bind (PySem.ESX.check_bound F.excBase_ValueError hC he rfl ?_)
  refine wpAny_bind (wpAny_pure (wpAny_pure ?_))
  refine ⟨Code.quiet_builtin _ (by decide +kernel), codeAny_builtin F.excBase_ValueError.initEntry ?_⟩
  rw [Around.under_plainId F.excBase_ValueError.init.plain _]
  wp_walk
  refine hq _ h.objs.size (fun b o hb ho => ?_) ?_
  · rw [Heap.get?_update_other _ _ (Ne.symm hb)]
    exact Heap.get?_push_of_some _ ho
  · rw [Heap.get?_update_self _ (Heap.get?_push_of_some _ he) rfl]
    rfl
end
end PLX
/-! PL, part a: plain values, the store, how they lie in the abstract heap. -/
namespace PL
open PySem PySem.Spec PyProof.Rows L2
/-- a plain value: tuples and finished lists are trees; frz: a list that is only read; loc: a place of the store; con: any other value -/
inductive PV where
  | non | bl (b : Bool) | int (i : Int) | str (x : Str)
  | tup (xs : List PV) | lst (xs : List PV) | frz (xs : List PV) | loc (l : Nat) | con (v : V)
  | exc (a d : Nat) (ns : List Str) (xs : List PV)
/-- what stands at a place of the store -/
inductive PO where
  | lst (xs : List PV)
abbrev Store := List PO
inductive Res (α : Type) where
  | ok (a : α) (st : Store)
  | err (n : Str) (fs : Option (List (Str × PV))) (st : Store)
  | stuck
def Res.bind {α β : Type} : Res α → (α → Store → Res β) → Res β
  | .ok a st, k => k a st
  | .err n fs st, _ => .err n fs st
  | .stuck, _ => .stuck
/-- the frozen part of the heap, and where the places of the store lie -/
structure Wo where
  F : Hp
  ρ : List Addr
section
variable (K : PySem.W.Frag) (ω : Wo)
mutual
inductive Rep : PV → V → Prop
  | non : Rep .non .non
  | bl (b : Bool) : Rep (.bl b) (.bl b)
  | int (i : Int) : Rep (.int i) (.int i)
  | str (x : Str) : Rep (.str x) (.str x)
  | tup {a : Addr} {vs : List V} {xs : List PV} : ω.F a = some (.tup vs) → Reps xs vs → Rep (.tup xs) (.ref a)
  | lst {a : Addr} {vs : List V} {xs : List PV} : ω.F a = some (.lst vs) → Reps xs vs → Rep (.lst xs) (.ref a)
  | frz {a : Addr} {vs : List V} {xs : List PV} : SqL K ω.F a vs → Reps xs vs → Rep (.frz xs) (.ref a)
  | loc {a : Addr} {l : Nat} : ω.ρ[l]? = some a → Rep (.loc l) (.ref a)
  | con (v : V) : Rep (.con v) v
  | exc {a d : Addr} {ns : List Str} {xs : List PV} {fs : List (Str × V)} : ω.F d = some (.xd fs) → fs.map (·.1) = ns → Reps xs (fs.map (·.2)) → Rep (.exc a d ns xs) (.ref a)
inductive Reps : List PV → List V → Prop
  | nil : Reps [] []
  | cons {x : PV} {xs : List PV} {v : V} {vs : List V} : Rep x v → Reps xs vs → Reps (x :: xs) (v :: vs)
end
end
/-- the frozen part grows, the places stay -/
structure Wo.Le (ω ω' : Wo) : Prop where
  fz : Same ω.F ω'.F
  pre : ∃ r, ω'.ρ = ω.ρ ++ r
theorem Wo.Le.refl (ω : Wo) : ω.Le ω := ⟨Same.refl _, [], by simp⟩
theorem Wo.Le.trans {a b c : Wo} (h : a.Le b) (h' : b.Le c) : a.Le c := by
  obtain ⟨r, e⟩ := h.pre
  obtain ⟨r', e'⟩ := h'.pre
  exact ⟨h.fz.trans h'.fz, r ++ r', by rw [e', e, List.append_assoc]⟩
theorem Wo.Le.at {a b : Wo} (h : a.Le b) {l : Nat} {p : Addr} (e : a.ρ[l]? = some p) : b.ρ[l]? = some p := by
  obtain ⟨r, q⟩ := h.pre
  rw [q]
  have hl : l < a.ρ.length := by
    rcases Nat.lt_or_ge l a.ρ.length with z | z
    · exact z
    · rw [List.getElem?_eq_none z] at e; cases e
  rw [List.getElem?_append_left hl]
  exact e
section
variable {K : PySem.W.Frag} {ω ω' : Wo}
mutual
theorem Rep.mono (h : ω.Le ω') : ∀ {x : PV} {v : V}, Rep K ω x v → Rep K ω' x v
  | _, _, .non => .non
  | _, _, .bl b => .bl b
  | _, _, .int i => .int i
  | _, _, .str x => .str x
  | _, _, .tup e r => .tup (h.fz _ _ e) (Reps.mono h r)
  | _, _, .lst e r => .lst (h.fz _ _ e) (Reps.mono h r)
  | _, _, .frz e r => .frz (h.fz.seq e) (Reps.mono h r)
  | _, _, .loc e => .loc (h.at e)
  | _, _, .con v => .con v
  | _, _, .exc e n r => .exc (h.fz _ _ e) n (Reps.mono h r)
theorem Reps.mono (h : ω.Le ω') : ∀ {xs : List PV} {vs : List V}, Reps K ω xs vs → Reps K ω' xs vs
  | _, _, .nil => .nil
  | _, _, .cons r t => .cons (Rep.mono h r) (Reps.mono h t)
end
theorem Reps.length : ∀ {xs : List PV} {vs : List V}, Reps K ω xs vs → xs.length = vs.length
  | _, _, .nil => rfl
  | _, _, .cons _ t => by simp [Reps.length t]
theorem Reps.get : ∀ {xs : List PV} {vs : List V} {i : Nat} {x : PV}, Reps K ω xs vs → xs[i]? = some x → ∃ v, vs[i]? = some v ∧ Rep K ω x v
  | _, _, _, _, .nil, e => by simp at e
  | _, _, 0, _, .cons r _, e => by simp at e; subst e; exact ⟨_, rfl, r⟩
  | _, _, i + 1, x, .cons _ t, e => by
    obtain ⟨u, h1, h2⟩ := Reps.get (i := i) (x := x) t (by simpa using e)
    exact ⟨u, by simpa using h1, h2⟩
theorem Reps.get' : ∀ {xs : List PV} {vs : List V} {i : Nat} {v : V}, Reps K ω xs vs → vs[i]? = some v → ∃ x, xs[i]? = some x ∧ Rep K ω x v
  | _, _, _, _, .nil, e => by simp at e
  | _, _, 0, _, .cons r _, e => by simp at e; subst e; exact ⟨_, rfl, r⟩
  | _, _, i + 1, x, .cons _ t, e => by
    obtain ⟨u, h1, h2⟩ := Reps.get' (i := i) (v := x) t (by simpa using e)
    exact ⟨u, by simpa using h1, h2⟩
theorem Reps.append : ∀ {xs ys : List PV} {vs ws : List V}, Reps K ω xs vs → Reps K ω ys ws → Reps K ω (xs ++ ys) (vs ++ ws)
  | _, _, _, _, .nil, s => s
  | _, _, _, _, .cons r t, s => .cons r (Reps.append t s)
theorem Reps.take : ∀ {xs : List PV} {vs : List V} (n : Nat), Reps K ω xs vs → Reps K ω (xs.take n) (vs.take n)
  | _, _, 0, _ => by simp; exact .nil
  | _, _, _ + 1, .nil => .nil
  | _, _, n + 1, .cons r t => .cons r (Reps.take n t)
theorem Reps.drop : ∀ {xs : List PV} {vs : List V} (n : Nat), Reps K ω xs vs → Reps K ω (xs.drop n) (vs.drop n)
  | _, _, 0, r => r
  | _, _, _ + 1, .nil => .nil
  | _, _, n + 1, .cons _ t => Reps.drop n t
theorem Reps.set : ∀ {xs : List PV} {vs : List V} {x : PV} {v : V} (i : Nat), Rep K ω x v → Reps K ω xs vs → Reps K ω (xs.set i x) (vs.set i v)
  | _, _, _, _, _, _, .nil => .nil
  | _, _, _, _, 0, q, .cons _ t => .cons q t
  | _, _, _, _, i + 1, q, .cons r t => .cons r (Reps.set i q t)
theorem Reps.replicate : ∀ {xs : List PV} {vs : List V} (n : Nat), Reps K ω xs vs → Reps K ω (List.replicate n xs).flatten (List.replicate n vs).flatten
  | _, _, 0, _ => .nil
  | xs, vs, n + 1, r => by
    rw [List.replicate_succ, List.replicate_succ, List.flatten_cons, List.flatten_cons]
    exact r.append (Reps.replicate n r)
theorem Reps.one {x : PV} {v : V} (r : Rep K ω x v) : Reps K ω [x] [v] := .cons r .nil
end
/-- what a place of the store holds -/
def ObjR (K : PySem.W.Frag) (ω : Wo) (H : Hp) (a : Addr) : PO → Prop
  | .lst xs => ∃ vs, H a = some (.lst vs) ∧ Reps K ω xs vs
theorem ObjR.some {K : PySem.W.Frag} {ω : Wo} {H : Hp} {a : Addr} : ∀ {o : PO}, ObjR K ω H a o → ∃ u, H a = some u
  | .lst _, ⟨_, e, _⟩ => ⟨_, e⟩
structure Wd (K : PySem.W.Frag) (ω : Wo) (st : Store) (H : Hp) : Prop where
  sub : Same ω.F H
  len : ω.ρ.length = st.length
  nd : ω.ρ.Nodup
  sep : ∀ a ∈ ω.ρ, ω.F a = none
  obj : ∀ (l : Nat) (a : Addr) (o : PO), ω.ρ[l]? = some a → st[l]? = some o → ObjR K ω H a o
structure Ext (ω : Wo) (H : Hp) (ω' : Wo) (H' : Hp) : Prop where
  le : ω.Le ω'
  oth : ∀ b o, H b = some o → b ∉ ω.ρ → H' b = some o
  live : ∀ b, H b ≠ none → H' b ≠ none
  nF : ∀ b, ω'.F b ≠ none → ω.F b ≠ none ∨ H b = none
  nρ : ∀ b, b ∈ ω'.ρ → b ∈ ω.ρ ∨ H b = none
theorem Ext.refl (ω : Wo) (H : Hp) : Ext ω H ω H := ⟨.refl ω, fun _ _ h _ => h, fun _ h => h, fun _ h => .inl h, fun _ h => .inl h⟩
theorem Ext.trans {ω1 ω2 ω3 : Wo} {H1 H2 H3 : Hp} (a : Ext ω1 H1 ω2 H2) (b : Ext ω2 H2 ω3 H3) : Ext ω1 H1 ω3 H3 where
  le := a.le.trans b.le
  oth := fun p o h n => b.oth p o (a.oth p o h n) fun m => by
    rcases a.nρ p m with z | z
    · exact n z
    · rw [h] at z; cases z
  live := fun p h => b.live p (a.live p h)
  nF := fun p h => by
    rcases b.nF p h with z | z
    · exact a.nF p z
    · refine .inr ?_
      cases q : H1 p with
      | none => rfl
      | some o => exact absurd z (a.live p (by rw [q]; simp))
  nρ := fun p h => by
    rcases b.nρ p h with z | z
    · exact a.nρ p z
    · refine .inr ?_
      cases q : H1 p with
      | none => rfl
      | some o => exact absurd z (a.live p (by rw [q]; simp))
section
variable {K : PySem.W.Frag} {ω ω' : Wo} {st st' : Store} {H H' : Hp}
theorem Wd.lt (h : Wd K ω st H) {l : Nat} {a : Addr} (e : ω.ρ[l]? = some a) : l < st.length := by
  rw [← h.len]
  rcases Nat.lt_or_ge l ω.ρ.length with z | z
  · exact z
  · rw [List.getElem?_eq_none z] at e; cases e
theorem Wd.there (h : Wd K ω st H) {a : Addr} (m : a ∈ ω.ρ) : ∃ u, H a = some u := by
  obtain ⟨l, hl, e⟩ := List.getElem_of_mem m
  have e' : ω.ρ[l]? = some a := by rw [List.getElem?_eq_getElem hl, e]
  have hs := h.lt e'
  exact (h.obj l a st[l] e' (List.getElem?_eq_getElem hs)).some
theorem Wd.ne (h : Wd K ω st H) {a p : Addr} (m : a ∈ ω.ρ) (n : H p = none) : a ≠ p := by
  obtain ⟨u, e⟩ := h.there m
  exact ne_of_none e n
theorem Wd.fresh (h : Wd K ω st H) {p : Addr} (n : H p = none) : ω.F p = none := h.sub.free n
/-- a new object is frozen at once -/
abbrev Wo.fz (ω : Wo) (p : Addr) (o : HO) : Wo := ⟨upd ω.F p o, ω.ρ⟩
theorem Wo.fz_le {p : Addr} {o : HO} (n : ω.F p = none) : ω.Le (ω.fz p o) :=
  ⟨fun b u e => by rw [show (ω.fz p o).F = upd ω.F p o from rfl, upd_ne (ne_of_none e n)]; exact e, [], by simp⟩
theorem Wd.fz (h : Wd K ω st H) {p : Addr} (n : H p = none) (o : HO) : Wd K (ω.fz p o) st (upd H p o) ∧ Ext ω H (ω.fz p o) (upd H p o) := by
  have nF := h.fresh n
  have le := Wo.fz_le (o := o) nF
  refine ⟨⟨fun b u e => ?_, h.len, h.nd, fun a m => ?_, fun l a q e1 e2 => ?_⟩, le, fun b u e m => ?_, fun b z => ?_, fun b z => ?_, fun b m => .inl m⟩
  · by_cases hb : b = p
    · subst hb
      have e : upd ω.F b o b = some u := e
      rw [upd_same] at e ⊢
      exact e
    · have e : upd ω.F p o b = some u := e
      rw [upd_ne hb] at e ⊢
      exact h.sub b u e
  · show upd ω.F p o a = none
    rw [upd_ne (h.ne m n)]
    exact h.sep a m
  · have hq := h.obj l a q e1 e2
    have na : a ≠ p := h.ne (List.mem_of_getElem? e1) n
    cases q with
    | lst xs =>
      obtain ⟨vs, e, r⟩ := hq
      exact ⟨vs, by rw [upd_ne na]; exact e, r.mono le⟩
  · rw [upd_ne (ne_of_none e n)]
    exact e
  · by_cases hb : b = p
    · subst hb; rw [upd_same]; simp
    · rw [upd_ne hb]; exact z
  · by_cases hb : b = p
    · subst hb; exact .inr n
    · have z : upd ω.F p o b ≠ none := z
      rw [upd_ne hb] at z
      exact .inl z
/-- a new place of the store -/
abbrev Wo.nw (ω : Wo) (p : Addr) : Wo := ⟨ω.F, ω.ρ ++ [p]⟩
theorem Wo.nw_le {p : Addr} : ω.Le (ω.nw p) := ⟨Same.refl _, [p], rfl⟩
theorem Wd.nw (h : Wd K ω st H) {p : Addr} (n : H p = none) {xs : List PV} {vs : List V} (r : Reps K ω xs vs) :
    Wd K (ω.nw p) (st ++ [.lst xs]) (upd H p (.lst vs)) ∧ Ext ω H (ω.nw p) (upd H p (.lst vs)) := by
  have nF := h.fresh n
  have le : ω.Le (ω.nw p) := Wo.nw_le
  refine ⟨⟨fun b u e => ?_, ?_, ?_, fun a m => ?_, fun l a q e1 e2 => ?_⟩, le, fun b u e m => ?_, fun b z => ?_, fun b z => .inl z, fun b m => ?_⟩
  · rw [upd_ne (ne_of_none (h.sub b u e) n)]
    exact h.sub b u e
  · simp [h.len]
  · refine List.nodup_append.mpr ⟨h.nd, by simp, fun a ha b hb => ?_⟩
    have e : b = p := by simpa using hb
    subst e
    exact h.ne ha n
  · rcases List.mem_append.mp m with m | m
    · exact h.sep a m
    · have e : a = p := by simpa using m
      subst e; exact nF
  · rcases Nat.lt_or_ge l st.length with hl | hl
    · have e1' : ω.ρ[l]? = some a := by
        have e1 : (ω.ρ ++ [p])[l]? = some a := e1
        rw [List.getElem?_append_left (by rw [h.len]; exact hl)] at e1
        exact e1
      rw [List.getElem?_append_left hl] at e2
      have hq := h.obj l a q e1' e2
      have na : a ≠ p := h.ne (List.mem_of_getElem? e1') n
      cases q with
      | lst ys =>
        obtain ⟨ws, e, r'⟩ := hq
        exact ⟨ws, by rw [upd_ne na]; exact e, r'.mono le⟩
    · have e1 : (ω.ρ ++ [p])[l]? = some a := e1
      rw [List.getElem?_append_right (by rw [h.len]; exact hl)] at e1
      rw [List.getElem?_append_right hl] at e2
      have z : l - st.length = 0 := by
        rcases Nat.eq_zero_or_pos (l - st.length) with z | z
        · exact z
        · rw [List.getElem?_eq_none (by simp only [List.length_singleton]; omega)] at e2; cases e2
      rw [z] at e2
      rw [h.len, z] at e1
      simp only [List.getElem?_cons_zero, Option.some.injEq] at e1 e2
      subst e1
      subst e2
      exact ⟨vs, upd_same, r.mono le⟩
  · rw [upd_ne (ne_of_none e n)]
    exact e
  · by_cases hb : b = p
    · subst hb; rw [upd_same]; simp
    · rw [upd_ne hb]; exact z
  · rcases List.mem_append.mp m with m | m
    · exact .inl m
    · have e : b = p := by simpa using m
      subst e; exact .inr n
/-- a place of the store is written -/
theorem Wd.wr (h : Wd K ω st H) {l : Nat} {a : Addr} (e : ω.ρ[l]? = some a) {xs : List PV} {vs : List V} (r : Reps K ω xs vs) :
    Wd K ω (st.set l (.lst xs)) (upd H a (.lst vs)) ∧ Ext ω H ω (upd H a (.lst vs)) := by
  have ma := List.mem_of_getElem? e
  have sepF : ∀ b u, ω.F b = some u → b ≠ a := fun b u q z => by
    subst z
    rw [h.sep b ma] at q; cases q
  have hl := h.lt e
  refine ⟨⟨fun b u q => ?_, ?_, h.nd, h.sep, fun l' b q e1 e2 => ?_⟩, .refl ω, fun b u q m => ?_, fun b z => ?_, fun b z => .inl z, fun b m => .inl m⟩
  · rw [upd_ne (sepF b u q)]
    exact h.sub b u q
  · rw [List.length_set]; exact h.len
  · by_cases hll : l' = l
    · subst hll
      rw [e] at e1; cases e1
      rw [List.getElem?_set_self hl] at e2; cases e2
      exact ⟨vs, upd_same, r⟩
    · rw [List.getElem?_set_ne (Ne.symm hll)] at e2
      have hq := h.obj l' b q e1 e2
      have nb : b ≠ a := fun z => by
        subst z
        have h1 : l' < ω.ρ.length := by rw [h.len]; exact h.lt e1
        exact hll ((List.getElem?_inj h1 h.nd).mp (e1.trans e.symm))
      cases q with
      | lst ys =>
        obtain ⟨ws, e', r'⟩ := hq
        exact ⟨ws, by rw [upd_ne nb]; exact e', r'⟩
  · have nb : b ≠ a := fun z => m (z ▸ ma)
    rw [upd_ne nb]
    exact q
  · by_cases hb : b = a
    · subst hb; rw [upd_same]; simp
    · rw [upd_ne hb]; exact z
end
/-! ### environments -/
abbrev PEnv := List (Option PV)
structure REnv (K : PySem.W.Frag) (ω : Wo) (env : PEnv) (σ : L2.St) : Prop where
  len : env.length = σ.length
  at' : ∀ (i : Nat) (v : PV), env[i]? = some (some v) → ∃ x, σ[i]? = some (some x) ∧ Rep K ω v x
section
variable {K : PySem.W.Frag} {ω ω' : Wo} {env : PEnv} {σ : L2.St}
theorem REnv.mono (h : REnv K ω env σ) (le : ω.Le ω') : REnv K ω' env σ := ⟨h.len, fun i v e => let ⟨x, e1, r⟩ := h.at' i v e; ⟨x, e1, r.mono le⟩⟩
theorem REnv.set (h : REnv K ω env σ) {v : PV} {x : V} (r : Rep K ω v x) (i : Nat) : REnv K ω (env.set i (some v)) (σ.set i (some x)) := by
  refine ⟨by simp [h.len], fun j u e => ?_⟩
  by_cases hj : i = j
  · subst hj
    by_cases hi : i < env.length
    · rw [List.getElem?_set_self hi] at e
      cases e
      exact ⟨x, List.getElem?_set_self (by rw [← h.len]; exact hi), r⟩
    · rw [List.getElem?_eq_none (by simpa using hi)] at e; cases e
  · rw [List.getElem?_set_ne hj] at e ⊢
    exact h.at' j u e
theorem REnv.unset (h : REnv K ω env σ) (i : Nat) : REnv K ω (env.set i none) (σ.set i none) := by
  refine ⟨by simp [h.len], fun j u e => ?_⟩
  by_cases hj : i = j
  · subst hj
    by_cases hi : i < env.length
    · rw [List.getElem?_set_self hi] at e; cases e
    · rw [List.getElem?_eq_none (by simpa using hi)] at e; cases e
  · rw [List.getElem?_set_ne hj] at e ⊢
    exact h.at' j u e
/-- some slots forgotten -/
def wipeP (env : PEnv) : List Nat → PEnv
  | [] => env
  | v :: vs => (wipeP env vs).set v none
theorem REnv.wipe (h : REnv K ω env σ) : ∀ vs, REnv K ω (wipeP env vs) (L2.wipe σ vs)
  | [] => h
  | v :: vs => (REnv.wipe h vs).unset v
end
/-! ### what is wanted behind -/
/-- the written part and the module's names -/
structure Gd where
  K : PySem.W.Frag
  mg : Str → Option Value
abbrev gd (X : Cx) : Gd := ⟨X.K, X.mg⟩
/-- an exception's own fields, in its dict at d -/
def XRep (K : PySem.W.Frag) (ω : Wo) (H₀ H : Hp) : Option (List (Str × PV)) → Option Addr → Prop
  | none, d => d = none
  | some fs, d => ∃ p vs, d = some p ∧ H₀ p = none ∧ H p = some (.xd vs) ∧ ω.F p = none ∧ p ∉ ω.ρ ∧ fs.map (·.1) = vs.map (·.1) ∧ Reps K ω (fs.map (·.2)) (vs.map (·.2))
theorem XRep.shift {K : PySem.W.Frag} {ω : Wo} {H₀ H₁ H : Hp} {ω₀ ω₁ : Wo} (x : Ext ω₀ H₀ ω₁ H₁) : ∀ {fs : Option (List (Str × PV))} {d : Option Addr}, XRep K ω H₁ H fs d → XRep K ω H₀ H fs d
  | none, _, h => h
  | some _, _, ⟨p, vs, e, n, r⟩ => ⟨p, vs, e, by
      cases q : H₀ p with
      | none => rfl
      | some o => exact absurd n (x.live p (by rw [q]; simp)), r⟩
def After {α β : Type} (G : Gd) (E : XK) (ω : Wo) (H : Hp) (r : Res α) (Rel : Wo → α → β → Prop) (Q : β → Hp → Prop) : Prop :=
  match r with
  | .ok a st' => ∀ ω' H' x, Ext ω H ω' H' → Wd G.K ω' st' H' → Rel ω' a x → Q x H'
  | .err n fs st' => ∀ ω' H' d cls, Ext ω H ω' H' → Wd G.K ω' st' H' → G.mg n = some cls → XRep G.K ω' H H' fs d → E cls d H'
  | .stuck => False
section
variable {α β γ δ : Type} {G : Gd} {E : XK} {ω ω1 : Wo} {H H1 : Hp}
theorem After.shift {r : Res α} {Rel : Wo → α → β → Prop} {Q : β → Hp → Prop} (h : After G E ω H r Rel Q) (x : Ext ω H ω1 H1) : After G E ω1 H1 r Rel Q := by
  cases r with
  | ok a st' => exact fun ω' H' y e w r => h ω' H' y (x.trans e) w r
  | err n fs st' => exact fun ω' H' d cls e w r y => h ω' H' d cls (x.trans e) w r (y.shift x)
  | stuck => exact h
theorem After.bind {r : Res α} {k : α → Store → Res γ} {Rel : Wo → α → β → Prop} {Rel' : Wo → γ → δ → Prop} {Q : δ → Hp → Prop} (h : After G E ω H (r.bind k) Rel' Q) :
    After G E ω H r Rel fun x H1 => ∃ ω1 st1 a, Ext ω H ω1 H1 ∧ Wd G.K ω1 st1 H1 ∧ Rel ω1 a x ∧ After G E ω1 H1 (k a st1) Rel' Q := by
  cases r with
  | ok a st' => exact fun ω' H' y e w q => ⟨ω', st', a, e, w, q, After.shift h e⟩
  | err n fs st' => exact h
  | stuck => exact h
theorem After.mono {r : Res α} {Rel : Wo → α → β → Prop} {Q Q' : β → Hp → Prop} (h : After G E ω H r Rel Q) (hq : ∀ x H', Q x H' → Q' x H') : After G E ω H r Rel Q' := by
  cases r with
  | ok a st' => exact fun ω' H' y e w q => hq _ _ (h ω' H' y e w q)
  | err n fs st' => exact h
  | stuck => exact h
theorem After.ok_here {a : α} {st : Store} {b : β} {Rel : Wo → α → β → Prop} {Q : β → Hp → Prop} (h : After G E ω H (.ok a st) Rel Q) (w : Wd G.K ω st H) (r : Rel ω a b) : Q b H := h ω H b (.refl ω H) w r
end
end PL
/-! PL, part b: expressions. -/
namespace PL
open PySem PySem.Spec PyProof.Rows L2
abbrev EM := PEnv → Store → Res PV
abbrev AM := PEnv → Store → Res (List PV)
abbrev TM := PEnv → Store → Res Bool
abbrev OM := PEnv → Store → Res (Option Int)
abbrev RV (K : PySem.W.Frag) : Wo → PV → V → Prop := fun ω v x => Rep K ω v x
abbrev RL (K : PySem.W.Frag) : Wo → List PV → List V → Prop := fun ω v x => Reps K ω v x
abbrev RQ {α : Type} : Wo → α → α → Prop := fun _ a b => a = b
abbrev wx (W : WX) (σ : L2.St) : XK := fun c d H => W c d σ H
/-- the reading by a plain function -/
def tG {α β : Type} (X : Cx) (W : WX) (Rel : Wo → α → β → Prop) (f : PEnv → Store → Res α) : L2.St → Hp → (β → Hp → Prop) → Prop :=
  fun σ H Q => ∃ ω st env, Wd X.K ω st H ∧ REnv X.K ω env σ ∧ After (gd X) (wx W σ) ω H (f env st) Rel Q
abbrev ME (X : Cx) (W : WX) (e : Expr) (f : EM) : Prop := PE X e (tG X W (RV X.K) f)
abbrev MT (X : Cx) (W : WX) (e : Expr) (f : TM) : Prop := PT X e (tG X W RQ f)
abbrev MW (X : Cx) (W : WX) (e : Expr) (f : TM) : Prop := PW X e (tG X W RQ f)
abbrev MA (X : Cx) (W : WX) (es : List Expr) (f : AM) : Prop := PA X es (tG X W (RL X.K) f)
abbrev MO (X : Cx) (W : WX) (e : Option Expr) (f : OM) : Prop := L2.PO X e (tG X W RQ f)
section
variable {X : Cx}
theorem peI {e : Expr} {t t' : TE} (h : PE X e t) (i : ∀ σ H Q, t' σ H Q → t σ H Q) : PE X e t' := ⟨fun pins s σ H Q I q => h.run pins s σ H Q I (i σ H Q q)⟩
theorem ptI {e : Expr} {t t' : TT} (h : PT X e t) (i : ∀ σ H Q, t' σ H Q → t σ H Q) : PT X e t' := ⟨fun pins s σ H Q I q => h.run pins s σ H Q I (i σ H Q q)⟩
theorem pwI {e : Expr} {t t' : TT} (h : PW X e t) (i : ∀ σ H Q, t' σ H Q → t σ H Q) : PW X e t' := ⟨fun wh pins s σ H Q I q => h.run wh pins s σ H Q I (i σ H Q q)⟩
theorem paI {e : List Expr} {t t' : TA} (h : PA X e t) (i : ∀ σ H Q, t' σ H Q → t σ H Q) : PA X e t' := ⟨fun pos pins s σ H Q I q => h.run pos pins s σ H Q I (i σ H Q q)⟩
theorem poI {e : Option Expr} {t t' : TO} (h : L2.PO X e t) (i : ∀ σ H Q, t' σ H Q → t σ H Q) : L2.PO X e t' := ⟨fun pins s σ H Q I q => h.run pins s σ H Q I (i σ H Q q)⟩
theorem psI {e : Stmt} {t t' : TS} (h : PS X e t) (i : ∀ D σ H, t' D σ H → t D σ H) : PS X e t' := ⟨fun pins s σ H D I q => h.run pins s σ H D I (i D σ H q)⟩
theorem pssI {e : List Stmt} {t t' : TS} (h : PSs X e t) (i : ∀ D σ H, t' D σ H → t D σ H) : PSs X e t' := ⟨fun pins s σ H D I q => h.run pins s σ H D I (i D σ H q)⟩
end
/-! ### names, constants -/
def eVar (i : Nat) : EM := fun env st => match env[i]? with
  | some (some v) => .ok v st
  | _ => .stuck
def eC (v : PV) : EM := fun _ st => .ok v st
section
variable {X : Cx} {W : WX} {pos : Pos}
theorem me_var (i : Nat) {x : Str} (hN : X.N[i]? = some x := by rfl) (hv : Vis X.env.scope x := by first | exact Or.inl rfl | exact Or.inr (Or.inl rfl) | exact Or.inr (Or.inr rfl)) (hd : (x == ("__debug__" : Str)) = false := by decide)
    (hcd : (x == ("__classdict__" : Str)) = false := by decide) : ME X W (.Name x pos) (eVar i) := by
  refine peI (pe_var hN hv hd hcd) ?_
  rintro σ H Q ⟨ω, st, env, wd, re, h⟩
  unfold eVar at h
  split at h
  · rename_i v e
    obtain ⟨y, e', r⟩ := re.at' i v e
    exact ⟨y, e', h.ok_here wd r⟩
  · exact False.elim h
theorem me_c {e : Expr} {v : V} {p : PV} (h : PE X e (tC v)) (r : ∀ ω, Rep X.K ω p v) : ME X W e (eC p) :=
  peI h fun σ H Q ⟨ω, st, env, wd, re, h⟩ => h.ok_here wd (r ω)
theorem me_int {i : Int} {j} : ME X W (.Constant (.int i) j pos) (eC (.int i)) := me_c pe_int fun _ => .int i
theorem me_bl {b : Bool} {j} : ME X W (.Constant (.bool b) j pos) (eC (.bl b)) := me_c pe_bl fun _ => .bl b
theorem me_non {j} : ME X W (.Constant .none j pos) (eC .non) := me_c pe_non fun _ => .non
theorem me_str {x : Str} {j} : ME X W (.Constant (.str x) j pos) (eC (.str x)) := me_c pe_str fun _ => .str x
/-- a module's constant -/
theorem me_gstr {x z : Str} {t : Tok} (hg : Gl X x) (hm : X.mg x = some (.str z t)) (hd : (x == ("__debug__" : Str)) = false := by decide) : ME X W (.Name x pos) (eC (.str z)) := me_c (pe_glob (v := .str z) hg hm ⟨t, rfl⟩ hd) fun _ => .str z
theorem me_gint {x : Str} {z : Int} {t : Tok} (hg : Gl X x) (hm : X.mg x = some (.int z t)) (hd : (x == ("__debug__" : Str)) = false := by decide) : ME X W (.Name x pos) (eC (.int z)) := me_c (pe_glob (v := .int z) hg hm ⟨t, rfl⟩ hd) fun _ => .int z
/-- a module's class or def, a built-in type, as a value -/
theorem me_gval {x : Str} {v : V} {u : Value} (hg : Gl X x) (hm : X.mg x = some u) (r : RelV v u) (hd : (x == ("__debug__" : Str)) = false := by decide) : ME X W (.Name x pos) (eC (.con v)) := me_c (pe_glob hg hm r hd) fun _ => .con v
theorem me_bval {x : Str} {v : V} {u : Value} (hg : Gl X x) (hm : X.mg x = none) (hv : bootBuiltins x = some u) (r : RelV v u) (hn : x ≠ "__name__" := by decide) (hd : (x == ("__debug__" : Str)) = false := by decide) : ME X W (.Name x pos) (eC (.con v)) :=
  me_c (pe_bltn hg hm hv r hn hd) fun _ => .con v
end
/-! ### operations of two and of one -/
def OpS (X : Cx) (f : Value → Value → Sem Value) (p : PV → PV → Store → Res PV) : Prop :=
  ∃ r, OpR X f r ∧ ∀ (E : XK) (ω : Wo) (st : Store) (H : Hp) (v w : PV) (x y : V) (Q : VK), Wd X.K ω st H → Rep X.K ω v x → Rep X.K ω w y → After (gd X) E ω H (p v w st) (RV X.K) Q → r x y H Q
def UnS (X : Cx) (f : Value → Sem Value) (p : PV → Store → Res PV) : Prop :=
  ∃ r, UnR X f r ∧ ∀ (E : XK) (ω : Wo) (st : Store) (H : Hp) (v : PV) (x : V) (Q : VK), Wd X.K ω st H → Rep X.K ω v x → After (gd X) E ω H (p v st) (RV X.K) Q → r x H Q
def eBin (p : PV → PV → Store → Res PV) (fa fb : EM) : EM := fun env st => (fa env st).bind fun v st1 => (fb env st1).bind fun w st2 => p v w st2
def eUn (p : PV → Store → Res PV) (fa : EM) : EM := fun env st => (fa env st).bind fun v st1 => p v st1
/-- a value that is to be a bool -/
def pTruth (v : PV) (st : Store) : Res Bool := match v with
  | .bl b => .ok b st
  | _ => .stuck
def eTest (f : EM) : TM := fun env st => (f env st).bind pTruth
def eChain (p p' : PV → PV → Store → Res PV) (fa fb fc : EM) : EM := fun env st => (fa env st).bind fun v st1 => (fb env st1).bind fun w st2 => (p v w st2).bind fun z st3 =>
  match z with
  | .bl true => (fc env st3).bind fun u st4 => p' w u st4
  | .bl false => .ok (.bl false) st3
  | _ => .stuck
section
variable {X : Cx} {W : WX} {pos : Pos} {a b c : Expr} {fa fb fc : EM}
theorem bin_step {r : R2} {p : PV → PV → Store → Res PV} (hi : ∀ (E : XK) (ω : Wo) (st : Store) (H : Hp) (v w : PV) (x y : V) (Q : VK), Wd X.K ω st H → Rep X.K ω v x → Rep X.K ω w y → After (gd X) E ω H (p v w st) (RV X.K) Q → r x y H Q)
    {σ : L2.St} {H : Hp} {Q : VK} (h : tG X W (RV X.K) (eBin p fa fb) σ H Q) : tOp r (tG X W (RV X.K) fa) (tG X W (RV X.K) fb) σ H Q := by
  obtain ⟨ω, st, env, wd, re, h⟩ := h
  refine ⟨ω, st, env, wd, re, (After.bind (Rel := RV X.K) h).mono ?_⟩
  rintro x H1 ⟨ω1, st1, v, e1, wd1, r1, h1⟩
  refine ⟨ω1, st1, env, wd1, re.mono e1.le, (After.bind (Rel := RV X.K) h1).mono ?_⟩
  rintro y H2 ⟨ω2, st2, w, e2, wd2, r2, h2⟩
  exact hi _ ω2 st2 H2 v w x y Q wd2 (r1.mono e2.le) r2 h2
theorem test_step {f : EM} {σ : L2.St} {H : Hp} {Q : Bool → Hp → Prop} (h : tG X W RQ (eTest f) σ H Q) : tG X W (RV X.K) f σ H (fun x H1 => ∃ k, x = .bl k ∧ Q k H1) := by
  obtain ⟨ω, st, env, wd, re, h⟩ := h
  refine ⟨ω, st, env, wd, re, (After.bind (Rel := RV X.K) h).mono ?_⟩
  rintro x H1 ⟨ω1, st1, v, e1, wd1, r1, h1⟩
  unfold pTruth at h1
  split at h1
  · cases r1
    exact ⟨_, rfl, h1.ok_here wd1 rfl⟩
  · exact False.elim h1
theorem me_bin {op : Operator} {p} (ho : OpS X (binaryOp op) p) (ha : ME X W a fa) (hb : ME X W b fb) : ME X W (.BinOp a op b pos) (eBin p fa fb) := by
  obtain ⟨r, hr, hi⟩ := ho
  exact peI (pe_op hr ha hb) fun σ H Q h => bin_step hi h
theorem me_un {op : UnaryOp} {p} (ho : UnS X (unaryOp op) p) (ha : ME X W a fa) : ME X W (.UnaryOp op a pos) (eUn p fa) := by
  obtain ⟨r, hr, hi⟩ := ho
  refine peI (pe_un hr ha) ?_
  rintro σ H Q ⟨ω, st, env, wd, re, h⟩
  refine ⟨ω, st, env, wd, re, (After.bind (Rel := RV X.K) h).mono ?_⟩
  rintro x H1 ⟨ω1, st1, v, e1, wd1, r1, h1⟩
  exact hi _ ω1 st1 H1 v x Q wd1 r1 h1
theorem me_cmp {op : CmpOp} {p} (ho : OpS X (compareOp op) p) (ha : ME X W a fa) (hb : ME X W b fb) (hm : behindInMarks op b = false := by first | exact nomark _ | rfl) : ME X W (.Compare a [op] [b] pos) (eBin p fa fb) := by
  obtain ⟨r, hr, hi⟩ := ho
  exact peI (pe_cmpR hr ha hb hm) fun σ H Q h => bin_step hi h
theorem mt_cmp {op : CmpOp} {p} (ho : OpS X (compareOp op) p) (ha : ME X W a fa) (hb : ME X W b fb) (hm : behindInMarks op b = false := by first | exact nomark _ | rfl) : MT X W (.Compare a [op] [b] pos) (eTest (eBin p fa fb)) := by
  obtain ⟨r, hr, hi⟩ := ho
  exact ptI (pt_cmpR hr ha hb hm) fun σ H Q h => bin_step hi (test_step h)
theorem chain_step {r r' : R2} {p p' : PV → PV → Store → Res PV} (hi : ∀ (E : XK) (ω : Wo) (st : Store) (H : Hp) (v w : PV) (x y : V) (Q : VK), Wd X.K ω st H → Rep X.K ω v x → Rep X.K ω w y → After (gd X) E ω H (p v w st) (RV X.K) Q → r x y H Q)
    (hi' : ∀ (E : XK) (ω : Wo) (st : Store) (H : Hp) (v w : PV) (x y : V) (Q : VK), Wd X.K ω st H → Rep X.K ω v x → Rep X.K ω w y → After (gd X) E ω H (p' v w st) (RV X.K) Q → r' x y H Q)
    {σ : L2.St} {H : Hp} {Q : VK} (h : tG X W (RV X.K) (eChain p p' fa fb fc) σ H Q) : tChain r r' (tG X W (RV X.K) fa) (tG X W (RV X.K) fb) (tG X W (RV X.K) fc) σ H Q := by
  obtain ⟨ω, st, env, wd, re, h⟩ := h
  refine ⟨ω, st, env, wd, re, (After.bind (Rel := RV X.K) h).mono ?_⟩
  rintro x H1 ⟨ω1, st1, v, e1, wd1, r1, h1⟩
  refine ⟨ω1, st1, env, wd1, re.mono e1.le, (After.bind (Rel := RV X.K) h1).mono ?_⟩
  rintro y H2 ⟨ω2, st2, w, e2, wd2, r2, h2⟩
  refine hi _ ω2 st2 H2 v w x y _ wd2 (r1.mono e2.le) r2 ((After.bind (Rel := RV X.K) h2).mono ?_)
  rintro z H3 ⟨ω3, st3, u, e3, wd3, r3, h3⟩
  split at h3
  · cases r3
    refine ⟨true, rfl, iteT ?_⟩
    refine ⟨ω3, st3, env, wd3, re.mono (e1.le.trans (e2.le.trans e3.le)), (After.bind (Rel := RV X.K) h3).mono ?_⟩
    rintro q H4 ⟨ω4, st4, u4, e4, wd4, r4, h4⟩
    exact hi' _ ω4 st4 H4 _ _ _ _ Q wd4 (r2.mono (e3.le.trans e4.le)) r4 h4
  · cases r3
    exact ⟨false, rfl, iteF (h3.ok_here wd3 (.bl false))⟩
  · exact False.elim h3
theorem me_chain {op op' : CmpOp} {p p'} (ho : OpS X (compareOp op) p) (ho' : OpS X (compareOp op') p') (ha : ME X W a fa) (hb : ME X W b fb) (hc : ME X W c fc)
    (hm : lastMarks [op, op'] [b, c] = false := by with_unfolding_all rfl) : ME X W (.Compare a [op, op'] [b, c] pos) (eChain p p' fa fb fc) := by
  obtain ⟨r, hr, hi⟩ := ho
  obtain ⟨r', hr', hi'⟩ := ho'
  exact peI (pe_chain hr hr' ha hb hc hm) fun σ H Q h => chain_step hi hi' h
theorem mt_chain {op op' : CmpOp} {p p'} (ho : OpS X (compareOp op) p) (ho' : OpS X (compareOp op') p') (ha : ME X W a fa) (hb : ME X W b fb) (hc : ME X W c fc)
    (hm : lastMarks [op, op'] [b, c] = false := by with_unfolding_all rfl) : MT X W (.Compare a [op, op'] [b, c] pos) (eTest (eChain p p' fa fb fc)) := by
  obtain ⟨r, hr, hi⟩ := ho
  obtain ⟨r', hr', hi'⟩ := ho'
  exact ptI (pt_chain hr hr' ha hb hc hm) fun σ H Q h => chain_step hi hi' (test_step h)
/-- an expression as a test -/
theorem mt_val {e : Expr} {f : EM} (h : ME X W e f) (he : ∀ whole, isTrue e X.env whole = (do let v ← whole; standAt e.pos; holding [v] (truthy v)) := by intro _; rfl) : MT X W e (eTest f) :=
  ptI (pt_val h he) fun σ H Q h => test_step h
/-! ### and, or, not, if -/
def tAndM (f g : TM) : TM := fun env st => (f env st).bind fun b st1 => if b = true then g env st1 else .ok false st1
def tOrM (f g : TM) : TM := fun env st => (f env st).bind fun b st1 => if b = true then .ok true st1 else g env st1
def tNotM (f : TM) : TM := fun env st => (f env st).bind fun b st1 => .ok (!b) st1
variable {ta tb : TM} {rest : List Expr}
theorem mw_and1 (ha : MT X W a ta) : MW X W (.BoolOp .And [a] pos) ta := pw_and1 ha
theorem mw_or1 (ha : MT X W a ta) : MW X W (.BoolOp .Or [a] pos) ta := pw_or1 ha
theorem mw_and (ha : MT X W a ta) (hb : MW X W (.BoolOp .And (b :: rest) pos) tb) : MW X W (.BoolOp .And (a :: b :: rest) pos) (tAndM ta tb) := by
  refine pwI (pw_and ha hb) ?_
  rintro σ H Q ⟨ω, st, env, wd, re, h⟩
  refine ⟨ω, st, env, wd, re, (After.bind (Rel := RQ) h).mono ?_⟩
  rintro x H1 ⟨ω1, st1, v, e1, wd1, r1, h1⟩
  have r1 : v = x := r1
  subst r1
  cases v with
  | true => exact iteT ⟨ω1, st1, env, wd1, re.mono e1.le, by simpa using h1⟩
  | false => exact iteF ((show After (gd X) (wx W σ) ω1 H1 (.ok false st1) RQ Q by simpa using h1).ok_here wd1 rfl)
theorem mw_or (ha : MT X W a ta) (hb : MW X W (.BoolOp .Or (b :: rest) pos) tb) : MW X W (.BoolOp .Or (a :: b :: rest) pos) (tOrM ta tb) := by
  refine pwI (pw_or ha hb) ?_
  rintro σ H Q ⟨ω, st, env, wd, re, h⟩
  refine ⟨ω, st, env, wd, re, (After.bind (Rel := RQ) h).mono ?_⟩
  rintro x H1 ⟨ω1, st1, v, e1, wd1, r1, h1⟩
  have r1 : v = x := r1
  subst r1
  cases v with
  | true => exact iteT ((show After (gd X) (wx W σ) ω1 H1 (.ok true st1) RQ Q by simpa using h1).ok_here wd1 rfl)
  | false => exact iteF ⟨ω1, st1, env, wd1, re.mono e1.le, by simpa using h1⟩
theorem mt_not (ha : MT X W a ta) : MT X W (.UnaryOp .Not a pos) (tNotM ta) := by
  refine ptI (pt_not ha) ?_
  rintro σ H Q ⟨ω, st, env, wd, re, h⟩
  refine ⟨ω, st, env, wd, re, (After.bind (Rel := RQ) h).mono ?_⟩
  rintro x H1 ⟨ω1, st1, v, e1, wd1, r1, h1⟩
  have r1 : v = x := r1
  subst r1
  exact h1.ok_here wd1 rfl
def eAndV (f g : EM) : EM := fun env st => (f env st).bind fun v st1 => match v with
  | .bl true => g env st1
  | .bl false => .ok (.bl false) st1
  | _ => .stuck
def eOrV (f g : EM) : EM := fun env st => (f env st).bind fun v st1 => match v with
  | .bl true => .ok (.bl true) st1
  | .bl false => g env st1
  | _ => .stuck
def eNotV (f : EM) : EM := fun env st => (f env st).bind fun v st1 => match v with
  | .bl b => .ok (.bl (!b)) st1
  | _ => .stuck
theorem me_one {op} (h : ME X W a fa) : ME X W (.BoolOp op [a] pos) fa := pe_one h
theorem me_and (ha : ME X W a fa) (hb : ME X W (.BoolOp .And (b :: rest) pos) fb) : ME X W (.BoolOp .And (a :: b :: rest) pos) (eAndV fa fb) := by
  refine peI (pe_and ha hb) ?_
  rintro σ H Q ⟨ω, st, env, wd, re, h⟩
  refine ⟨ω, st, env, wd, re, (After.bind (Rel := RV X.K) h).mono ?_⟩
  rintro x H1 ⟨ω1, st1, v, e1, wd1, r1, h1⟩
  split at h1
  · cases r1
    exact ⟨true, rfl, iteT ⟨ω1, st1, env, wd1, re.mono e1.le, h1⟩⟩
  · cases r1
    exact ⟨false, rfl, iteF (h1.ok_here wd1 (.bl false))⟩
  · exact False.elim h1
theorem me_or (ha : ME X W a fa) (hb : ME X W (.BoolOp .Or (b :: rest) pos) fb) : ME X W (.BoolOp .Or (a :: b :: rest) pos) (eOrV fa fb) := by
  refine peI (pe_or ha hb) ?_
  rintro σ H Q ⟨ω, st, env, wd, re, h⟩
  refine ⟨ω, st, env, wd, re, (After.bind (Rel := RV X.K) h).mono ?_⟩
  rintro x H1 ⟨ω1, st1, v, e1, wd1, r1, h1⟩
  split at h1
  · cases r1
    exact ⟨true, rfl, iteT (h1.ok_here wd1 (.bl true))⟩
  · cases r1
    exact ⟨false, rfl, iteF ⟨ω1, st1, env, wd1, re.mono e1.le, h1⟩⟩
  · exact False.elim h1
theorem me_not (ha : ME X W a fa) : ME X W (.UnaryOp .Not a pos) (eNotV fa) := by
  refine peI (pe_not ha) ?_
  rintro σ H Q ⟨ω, st, env, wd, re, h⟩
  refine ⟨ω, st, env, wd, re, (After.bind (Rel := RV X.K) h).mono ?_⟩
  rintro x H1 ⟨ω1, st1, v, e1, wd1, r1, h1⟩
  split at h1
  · cases r1
    exact ⟨_, rfl, h1.ok_here wd1 (.bl _)⟩
  · exact False.elim h1
def eIf (c : TM) (f g : EM) : EM := fun env st => (c env st).bind fun b st1 => if b = true then f env st1 else g env st1
theorem me_if (hc : MT X W c ta) (ha : ME X W a fa) (hb : ME X W b fb) : ME X W (.IfExp c a b pos) (eIf ta fa fb) := by
  refine peI (pe_ifExp hc ha hb) ?_
  rintro σ H Q ⟨ω, st, env, wd, re, h⟩
  refine ⟨ω, st, env, wd, re, (After.bind (Rel := RQ) h).mono ?_⟩
  rintro x H1 ⟨ω1, st1, v, e1, wd1, r1, h1⟩
  have r1 : v = x := r1
  subst r1
  cases v with
  | true => exact iteT ⟨ω1, st1, env, wd1, re.mono e1.le, by simpa using h1⟩
  | false => exact iteF ⟨ω1, st1, env, wd1, re.mono e1.le, by simpa using h1⟩
end
/-! ### arguments, displays, calls -/
def aNil : AM := fun _ st => .ok [] st
def aCons (f : EM) (g : AM) : AM := fun env st => (f env st).bind fun v st1 => (g env st1).bind fun vs st2 => .ok (v :: vs) st2
section
variable {X : Cx} {W : WX} {pos : Pos} {e : Expr} {es : List Expr} {f : EM} {fs : AM}
theorem ma_nil : MA X W [] aNil := paI pa_nil fun σ H Q ⟨ω, st, env, wd, re, h⟩ => h.ok_here wd .nil
theorem ma_cons (ha : ME X W e f) (hr : MA X W es fs) (hs : starEach (e :: es) X.env = (false, eval e X.env) :: starEach es X.env := by rfl) : MA X W (e :: es) (aCons f fs) := by
  refine paI (pa_cons ha hr hs) ?_
  rintro σ H Q ⟨ω, st, env, wd, re, h⟩
  refine ⟨ω, st, env, wd, re, (After.bind (Rel := RV X.K) h).mono ?_⟩
  rintro x H1 ⟨ω1, st1, v, e1, wd1, r1, h1⟩
  refine ⟨ω1, st1, env, wd1, re.mono e1.le, (After.bind (Rel := RL X.K) h1).mono ?_⟩
  rintro xs H2 ⟨ω2, st2, vs, e2, wd2, r2, h2⟩
  exact h2.ok_here wd2 (.cons (r1.mono e2.le) r2)
/-- a new tuple, a new list that is not changed, a new place of the store -/
theorem new_tup {E : XK} {ω : Wo} {st : Store} {H : Hp} {xs : List V} {vs : List PV} {Q : VK} (wd : Wd X.K ω st H) (r : Reps X.K ω vs xs) (h : After (gd X) E ω H (.ok (.tup vs) st) (RV X.K) Q) (p : Addr) (n : H p = none) : Q (.ref p) (upd H p (.tup xs)) := by
  obtain ⟨w, e⟩ := wd.fz n (.tup xs)
  exact h _ _ _ e w (.tup upd_same (r.mono e.le))
theorem new_lst {E : XK} {ω : Wo} {st : Store} {H : Hp} {xs : List V} {vs : List PV} {Q : VK} (wd : Wd X.K ω st H) (r : Reps X.K ω vs xs) (h : After (gd X) E ω H (.ok (.lst vs) st) (RV X.K) Q) (p : Addr) (n : H p = none) : Q (.ref p) (upd H p (.lst xs)) := by
  obtain ⟨w, e⟩ := wd.fz n (.lst xs)
  exact h _ _ _ e w (.lst upd_same (r.mono e.le))
theorem new_loc {E : XK} {ω : Wo} {st : Store} {H : Hp} {xs : List V} {vs : List PV} {Q : VK} (wd : Wd X.K ω st H) (r : Reps X.K ω vs xs) (h : After (gd X) E ω H (.ok (.loc st.length) (st ++ [.lst vs])) (RV X.K) Q) (p : Addr) (n : H p = none) : Q (.ref p) (upd H p (.lst xs)) := by
  obtain ⟨w, e⟩ := wd.nw n r
  refine h _ _ _ e w (.loc ?_)
  rw [← wd.len]
  simp
def mkTup (vs : List PV) (st : Store) : Res PV := if vs.length ≤ sizeLine then .ok (.tup vs) st else .stuck
def mkLst (vs : List PV) (st : Store) : Res PV := if vs.length ≤ sizeLine then .ok (.lst vs) st else .stuck
def mkLoc (vs : List PV) (st : Store) : Res PV := if vs.length ≤ sizeLine then .ok (.loc st.length) (st ++ [.lst vs]) else .stuck
def eArgs (p : List PV → Store → Res PV) (fs : AM) : EM := fun env st => (fs env st).bind p
theorem args_step {p : List PV → Store → Res PV} {R : List V → Hp → VK → Prop} (hi : ∀ (E : XK) (ω : Wo) (st : Store) (H : Hp) (vs : List PV) (xs : List V) (Q : VK), Wd X.K ω st H → Reps X.K ω vs xs → After (gd X) E ω H (p vs st) (RV X.K) Q → R xs H Q)
    {σ : L2.St} {H : Hp} {Q : VK} (h : tG X W (RV X.K) (eArgs p fs) σ H Q) : tG X W (RL X.K) fs σ H (fun xs H1 => R xs H1 Q) := by
  obtain ⟨ω, st, env, wd, re, h⟩ := h
  refine ⟨ω, st, env, wd, re, (After.bind (Rel := RL X.K) h).mono ?_⟩
  rintro x H1 ⟨ω1, st1, v, e1, wd1, r1, h1⟩
  exact hi _ ω1 st1 H1 v x Q wd1 r1 h1
theorem me_tup {x1} (h : MA X W es fs) : ME X W (.Tuple es x1 pos) (eArgs mkTup fs) := by
  refine peI (pe_tup h) fun σ H Q q => args_step (R := fun xs H1 Q => xs.length ≤ sizeLine ∧ ∀ p, H1 p = none → Q (.ref p) (upd H1 p (.tup xs))) ?_ q
  intro E ω st H vs xs Q wd r h
  unfold mkTup at h
  split at h
  · exact ⟨by rw [← r.length]; assumption, new_tup wd r h⟩
  · exact False.elim h
theorem me_lst (h : MA X W es fs) : ME X W (.List es pos) (eArgs mkLst fs) := by
  refine peI (pe_lst h) fun σ H Q q => args_step (R := fun xs H1 Q => xs.length ≤ sizeLine ∧ ∀ p, H1 p = none → Q (.ref p) (upd H1 p (.lst xs))) ?_ q
  intro E ω st H vs xs Q wd r h
  unfold mkLst at h
  split at h
  · exact ⟨by rw [← r.length]; assumption, new_lst wd r h⟩
  · exact False.elim h
theorem me_loc (h : MA X W es fs) : ME X W (.List es pos) (eArgs mkLoc fs) := by
  refine peI (pe_lst h) fun σ H Q q => args_step (R := fun xs H1 Q => xs.length ≤ sizeLine ∧ ∀ p, H1 p = none → Q (.ref p) (upd H1 p (.lst xs))) ?_ q
  intro E ω st H vs xs Q wd r h
  unfold mkLoc at h
  split at h
  · exact ⟨by rw [← r.length]; assumption, new_loc wd r h⟩
  · exact False.elim h
/-! ### built-ins, called -/
def CallS (X : Cx) (f : Value) (p : List PV → Store → Res PV) : Prop :=
  ∃ r, CallR X f r ∧ ∀ (E : XK) (ω : Wo) (st : Store) (H : Hp) (vs : List PV) (xs : List V) (Q : VK), Wd X.K ω st H → Reps X.K ω vs xs → After (gd X) E ω H (p vs st) (RV X.K) Q → r xs H Q
variable {x : Str} {p : Pos} {id : String}
theorem me_callB {m} (hc : CallS X (.builtin id) m) (hg : Gl X x) (hm : X.mg x = none) (hv : bootBuiltins x = some (.builtin id)) (ha : MA X W (e :: es) fs) (hn : x ≠ "__name__" := by decide) (hdb : (x == ("__debug__" : Str)) = false := by decide)
    (he : starEach (e :: es) X.env = (false, eval e X.env) :: starEach es X.env := by rfl) (hpl : (backTo pos (starEach es X.env)).any (·.1) = false := by rfl) : ME X W (.Call (.Name x p) (e :: es) [] pos) (eArgs m fs) := by
  obtain ⟨r, hr, hi⟩ := hc
  exact peI (pe_callB hr hg hm hv ha hn hdb he hpl) fun σ H Q q => args_step hi q
theorem me_callTy {m} (hc : CallS X (.type id) m) (hg : Gl X x) (hm : X.mg x = none) (hv : bootBuiltins x = some (.type id)) (ha : MA X W (e :: es) fs) (hn : x ≠ "__name__" := by decide) (hdb : (x == ("__debug__" : Str)) = false := by decide)
    (he : starEach (e :: es) X.env = (false, eval e X.env) :: starEach es X.env := by rfl) (hpl : (backTo pos (starEach es X.env)).any (·.1) = false := by rfl) : ME X W (.Call (.Name x p) (e :: es) [] pos) (eArgs m fs) := by
  obtain ⟨r, hr, hi⟩ := hc
  exact peI (pe_callTy hr hg hm hv ha hn hdb he hpl) fun σ H Q q => args_step hi q
theorem me_callG {m} (hc : CallS X (.builtin id) m) (hg : Gl X x) (hm : X.mg x = some (.builtin id)) (ha : MA X W (e :: es) fs) (hdb : (x == ("__debug__" : Str)) = false := by decide)
    (he : starEach (e :: es) X.env = (false, eval e X.env) :: starEach es X.env := by rfl) (hpl : (backTo pos (starEach es X.env)).any (·.1) = false := by rfl) : ME X W (.Call (.Name x p) (e :: es) [] pos) (eArgs m fs) := by
  obtain ⟨r, hr, hi⟩ := hc
  exact peI (pe_callBfun hr hg hm ha hdb he hpl) fun σ H Q q => args_step hi q
/-! ### a def of one's own, called -/
def guardN (n : Nat) (m : List PV → Store → Res PV) : List PV → Store → Res PV := fun vs st => if vs.length = n then m vs st else .stuck
/-- a def's promise by its plain function -/
def spP (G : Gd) (n : Nat) (m : List PV → Store → Res PV) : Sp := fun vs H Q E => ∃ ω st args, Wd G.K ω st H ∧ Reps G.K ω args vs ∧ After G E ω H (guardN n m args st) (RV G.K) Q
theorem spP_len {G : Gd} {n : Nat} {m} {vs : List V} {H : Hp} {Q : VK} {E : XK} (h : spP G n m vs H Q E) : vs.length = n := by
  obtain ⟨ω, st, args, wd, r, h⟩ := h
  unfold guardN at h
  split at h
  · rw [← r.length]; assumption
  · exact False.elim h
/-- what lets no exception out -/
def noErr {α : Type} : Res α → Res α
  | .err _ _ _ => .stuck
  | r => r
theorem After.noErr {α β : Type} {G : Gd} {E E' : XK} {ω : Wo} {H : Hp} {r : Res α} {Rel : Wo → α → β → Prop} {Q : β → Hp → Prop} (h : After G E ω H (noErr r) Rel Q) : After G E' ω H r Rel Q := by
  cases r with
  | ok a st => exact h
  | err n f st => exact False.elim h
  | stuck => exact False.elim h
abbrev nE (m : List PV → Store → Res PV) : List PV → Store → Res PV := fun vs st => noErr (m vs st)
def eCall (n : Nat) (m : List PV → Store → Res PV) (fs : AM) : EM := eArgs (guardN n (nE m)) fs
theorem guard_noErr {E E' : XK} {G : Gd} {ω : Wo} {H : Hp} {n : Nat} {m : List PV → Store → Res PV} {vs : List PV} {st : Store} {Q : VK} (h : After G E ω H (guardN n (nE m) vs st) (RV G.K) Q) : After G E' ω H (guardN n (nE m) vs st) (RV G.K) Q := by
  unfold guardN at h ⊢
  split
  · rename_i e
    rw [if_pos e] at h
    show After G E' ω H (noErr (m vs st)) (RV G.K) Q
    have h : After G E ω H (noErr (m vs st)) (RV G.K) Q := h
    cases q : m vs st with
    | ok a st' => rw [q] at h; exact h
    | err n f st' => rw [q] at h; exact False.elim h
    | stuck => rw [q] at h; exact False.elim h
  · rename_i e
    rw [if_neg e] at h
    exact False.elim h
variable {k n : Nat} {fa : Addr} {fd : FuncData} {ps : List Str}
theorem me_call {m} (F : FnOk X.prog X.w X.K X.mg X.base CX0 k fa fd ps (spP (gd X) n (nE m))) (hr : Room k X.A) (hg : Gl X x) (hm : X.mg x = some (.ref fa)) (hk : PySem.W.keepIn X.K (.ref fa) = true) (hb : Binds X.K fd ps [])
    (ha : MA X W (e :: es) fs) (hdb : (x == ("__debug__" : Str)) = false := by decide) (he : starEach (e :: es) X.env = (false, eval e X.env) :: starEach es X.env := by rfl) (hpl : (backTo pos (starEach es X.env)).any (·.1) = false := by rfl) :
    ME X W (.Call (.Name x p) (e :: es) [] pos) (eCall n m fs) := by
  refine peI (pe_call F hr hg hm hk hb .nil pass0 ha hdb he hpl) fun σ H Q q => args_step (R := fun xs H1 Q => spP (gd X) n (nE m) (xs ++ []) H1 Q E0) ?_ q
  intro E ω st H vs xs Q wd r h
  rw [List.append_nil]
  exact ⟨ω, st, vs, wd, r, guard_noErr h⟩
/-! ### a built-in's method -/
def MtS (X : Cx) (T id : String) (ty : PV → Store → Bool) (p : PV → List PV → Store → Res PV) : Prop :=
  ∃ r, MtR X id r ∧ (∀ (ω : Wo) (st : Store) (H : Hp) (v : PV) (x : V), Wd X.K ω st H → Rep X.K ω v x → ty v st = true → tyV X.K T x H) ∧
    ∀ (E : XK) (ω : Wo) (st : Store) (H : Hp) (v : PV) (x : V) (vs : List PV) (xs : List V) (Q : VK), Wd X.K ω st H → Rep X.K ω v x → Reps X.K ω vs xs → After (gd X) E ω H (p v vs st) (RV X.K) Q → r x xs H Q
def eMeth (ty : PV → Store → Bool) (p : PV → List PV → Store → Res PV) (fo : EM) (fs : AM) : EM := fun env st => (fo env st).bind fun v st1 => if ty v st1 = true then (fs env st1).bind fun vs st2 => p v vs st2 else .stuck
variable {o : Expr} {fo : EM} {name : Str} {apos cpos : Pos} {T : String}
theorem me_bm {ty m} (hM : MtS X T id ty m) (pa : PlainAttrs T) (slot : Slot T name id) (hty : typeOf (.builtin id) = pure (.type "method_descriptor")) (ho : ME X W o fo) (ha : MA X W (e :: es) fs)
    (hbase : attributeBase o name X.env (eval o X.env) = eval o X.env := by rfl)
    (hfew : ((backTo cpos (starEach (e :: es) X.env)).all (fun x => !x.1) && (backToKw cpos (keywordEach [] X.env)).all (fun x => x.1.isSome)
      && decide ((e :: es).length + ([] : List Keyword).length + (if ([] : List Keyword).isEmpty then 0 else 1) < 30)) = true := by rfl)
    (hline : (apos.endLine == cpos.line) = true := by rfl) (hs : starEach (e :: es) X.env = (false, eval e X.env) :: starEach es X.env := by rfl) (hplain : (backTo cpos (starEach es X.env)).any (·.1) = false := by rfl) :
    ME X W (.Call (.Attribute o name apos) (e :: es) [] cpos) (eMeth ty m fo fs) := by
  obtain ⟨r, hr, hT, hi⟩ := hM
  refine peI (pe_bm pa slot hty hr ho ha hbase hfew hline hs hplain) ?_
  rintro σ H Q ⟨ω, st, env, wd, re, h⟩
  refine ⟨ω, st, env, wd, re, (After.bind (Rel := RV X.K) h).mono ?_⟩
  rintro x H1 ⟨ω1, st1, v, e1, wd1, r1, h1⟩
  split at h1
  · rename_i hty
    refine ⟨hT _ _ _ _ _ wd1 r1 hty, ω1, st1, env, wd1, re.mono e1.le, (After.bind (Rel := RL X.K) h1).mono ?_⟩
    rintro xs H2 ⟨ω2, st2, vs, e2, wd2, r2, h2⟩
    exact hi _ ω2 st2 H2 v x vs xs Q wd2 (r1.mono e2.le) r2 h2
  · exact False.elim h1
theorem me_bm0 {ty m} (hM : MtS X T id ty m) (pa : PlainAttrs T) (slot : Slot T name id) (hty : typeOf (.builtin id) = pure (.type "method_descriptor")) (ho : ME X W o fo)
    (hbase : attributeBase o name X.env (eval o X.env) = eval o X.env := by rfl) (hline : (apos.endLine == cpos.line) = true := by rfl) :
    ME X W (.Call (.Attribute o name apos) [] [] cpos) (eMeth ty m fo aNil) := by
  obtain ⟨r, hr, hT, hi⟩ := hM
  refine peI (pe_bm0 pa slot hty hr ho hbase hline) ?_
  rintro σ H Q ⟨ω, st, env, wd, re, h⟩
  refine ⟨ω, st, env, wd, re, (After.bind (Rel := RV X.K) h).mono ?_⟩
  rintro x H1 ⟨ω1, st1, v, e1, wd1, r1, h1⟩
  split at h1
  · rename_i hty
    exact ⟨hT _ _ _ _ _ wd1 r1 hty, hi _ ω1 st1 H1 v x [] [] Q wd1 r1 .nil h1⟩
  · exact False.elim h1
/-! ### an item, a slice -/
def IxS (X : Cx) (p : PV → PV → Store → Res PV) : Prop :=
  ∃ r, IxR X r ∧ ∀ (E : XK) (ω : Wo) (st : Store) (H : Hp) (v w : PV) (x y : V) (Q : VK), Wd X.K ω st H → Rep X.K ω v x → Rep X.K ω w y → After (gd X) E ω H (p v w st) (RV X.K) Q → r x y H Q
variable {a b : Expr} {f1 f2 : EM}
theorem me_ix {p} (hI : IxS X p) (ha : ME X W a f1) (hb : ME X W b f2) (hs : PlainIx b := by exact fun _ _ => rfl) : ME X W (.Subscript a b pos) (eBin p f1 f2) := by
  obtain ⟨r, hr, hi⟩ := hI
  exact peI (pe_ix hr ha hb hs) fun σ H Q h => bin_step hi h
def oNone : OM := fun _ st => .ok none st
def oSome (f : EM) : OM := fun env st => (f env st).bind fun v st1 => match v with
  | .int i => .ok (some i) st1
  | _ => .stuck
theorem mo_none : MO X W none oNone := poI po_none fun σ H Q ⟨ω, st, env, wd, re, h⟩ => h.ok_here wd rfl
theorem mo_some (h : ME X W e f) : MO X W (some e) (oSome f) := by
  refine poI (po_some h) ?_
  rintro σ H Q ⟨ω, st, env, wd, re, h⟩
  refine ⟨ω, st, env, wd, re, (After.bind (Rel := RV X.K) h).mono ?_⟩
  rintro x H1 ⟨ω1, st1, v, e1, wd1, r1, h1⟩
  split at h1
  · cases r1
    exact ⟨_, rfl, h1.ok_here wd1 rfl⟩
  · exact False.elim h1
def SlS (X : Cx) (p : PV → Option Int → Option Int → Store → Res PV) : Prop :=
  ∃ r, SlR X r ∧ ∀ (E : XK) (ω : Wo) (st : Store) (H : Hp) (v : PV) (x : V) (lo hi : Option Int) (Q : VK), Wd X.K ω st H → Rep X.K ω v x → After (gd X) E ω H (p v lo hi st) (RV X.K) Q → r x lo hi H Q
def eSl (p : PV → Option Int → Option Int → Store → Res PV) (f : EM) (l u : OM) : EM := fun env st => (f env st).bind fun v st1 => (l env st1).bind fun lo st2 => (u env st2).bind fun hi st3 => p v lo hi st3
theorem me_sl {p} {lo hi : Option Expr} {l u : OM} {p2 : Pos} (hS : SlS X p) (ha : ME X W a f1) (hl : MO X W lo l) (hu : MO X W hi u) : ME X W (.Subscript a (.Slice lo hi none p2) pos) (eSl p f1 l u) := by
  obtain ⟨r, hr, hi'⟩ := hS
  refine peI (pe_slice hr ha hl hu) ?_
  rintro σ H Q ⟨ω, st, env, wd, re, h⟩
  refine ⟨ω, st, env, wd, re, (After.bind (Rel := RV X.K) h).mono ?_⟩
  rintro x H1 ⟨ω1, st1, v, e1, wd1, r1, h1⟩
  refine ⟨ω1, st1, env, wd1, re.mono e1.le, (After.bind (Rel := RQ) h1).mono ?_⟩
  rintro y H2 ⟨ω2, st2, w, e2, wd2, r2, h2⟩
  have r2 : w = y := r2
  subst r2
  refine ⟨ω2, st2, env, wd2, re.mono (e1.le.trans e2.le), (After.bind (Rel := RQ) h2).mono ?_⟩
  rintro z H3 ⟨ω3, st3, u, e3, wd3, r3, h3⟩
  have r3 : u = z := r3
  subst r3
  exact hi' _ ω3 st3 H3 v x w u Q wd3 (r1.mono (e2.le.trans e3.le)) h3
end
end PL
/-! PL, part c: statements, loops, comprehensions, defs. -/
namespace PL
open PySem PySem.Spec PyProof.Rows L2
inductive SR where
  | nx (env : PEnv) (st : Store)
  | rt (v : PV) (st : Store)
  | bk (env : PEnv) (st : Store)
  | ct (env : PEnv) (st : Store)
  | err (env : PEnv) (n : Str) (fs : Option (List (Str × PV))) (st : Store)
  | stuck
abbrev SM := PEnv → Store → SR
def AfterS (X : Cx) (W : WX) (ω : Wo) (H : Hp) (r : SR) (D : Ends) : Prop :=
  match r with
  | .nx env st => ∀ ω' H' σ', Ext ω H ω' H' → Wd X.K ω' st H' → REnv X.K ω' env σ' → D.nx σ' H'
  | .rt v st => ∀ ω' H' x, Ext ω H ω' H' → Wd X.K ω' st H' → Rep X.K ω' v x → D.rt x H'
  | .bk env st => ∀ ω' H' σ', Ext ω H ω' H' → Wd X.K ω' st H' → REnv X.K ω' env σ' → D.bk σ' H'
  | .ct env st => ∀ ω' H' σ', Ext ω H ω' H' → Wd X.K ω' st H' → REnv X.K ω' env σ' → D.ct σ' H'
  | .err env n fs st => ∀ ω' H' σ' d cls, Ext ω H ω' H' → Wd X.K ω' st H' → REnv X.K ω' env σ' → X.mg n = some cls → XRep X.K ω' H H' fs d → W cls d σ' H'
  | .stuck => False
def tS (X : Cx) (W : WX) (f : SM) : TS := fun D σ H => ∃ ω st env, Wd X.K ω st H ∧ REnv X.K ω env σ ∧ AfterS X W ω H (f env st) D
abbrev MS (X : Cx) (W : WX) (s : Stmt) (f : SM) : Prop := PS X s (tS X W f)
abbrev MB (X : Cx) (W : WX) (s : List Stmt) (f : SM) : Prop := PSs X s (tS X W f)
def sOf {α : Type} (r : Res α) (env : PEnv) (k : α → Store → SR) : SR :=
  match r with
  | .ok a st => k a st
  | .err n fs st => .err env n fs st
  | .stuck => .stuck
section
variable {X : Cx} {W : WX} {ω ω1 : Wo} {H H1 : Hp} {D : Ends}
theorem AfterS.shift {r : SR} (h : AfterS X W ω H r D) (x : Ext ω H ω1 H1) : AfterS X W ω1 H1 r D := by
  cases r with
  | nx env st => exact fun ω' H' σ' e w r => h ω' H' σ' (x.trans e) w r
  | rt v st => exact fun ω' H' y e w r => h ω' H' y (x.trans e) w r
  | bk env st => exact fun ω' H' σ' e w r => h ω' H' σ' (x.trans e) w r
  | ct env st => exact fun ω' H' σ' e w r => h ω' H' σ' (x.trans e) w r
  | err env n fs st => exact fun ω' H' σ' d cls e w r m y => h ω' H' σ' d cls (x.trans e) w r m (y.shift x)
  | stuck => exact h
theorem AfterS.nx_here {env : PEnv} {st : Store} {σ : L2.St} (h : AfterS X W ω H (.nx env st) D) (w : Wd X.K ω st H) (r : REnv X.K ω env σ) : D.nx σ H := h ω H σ (.refl ω H) w r
theorem AfterS.bind {α β : Type} {r : Res α} {env : PEnv} {σ : L2.St} {k : α → Store → SR} {Rel : Wo → α → β → Prop} (h : AfterS X W ω H (sOf r env k) D) (re : REnv X.K ω env σ) :
    After (gd X) (wx W σ) ω H r Rel fun x H1 => ∃ ω1 st1 a, Ext ω H ω1 H1 ∧ Wd X.K ω1 st1 H1 ∧ Rel ω1 a x ∧ AfterS X W ω1 H1 (k a st1) D := by
  cases r with
  | ok a st' => exact fun ω' H' y e w q => ⟨ω', st', a, e, w, q, AfterS.shift h e⟩
  | err n fs st' => exact fun ω' H' d cls e w m y => h ω' H' σ d cls e w (re.mono e.le) m y
  | stuck => exact h
end
/-! ### blocks, small statements -/
def sNil : SM := fun env st => .nx env st
def sSeq (f g : SM) : SM := fun env st => match f env st with
  | .nx env' st' => g env' st'
  | r => r
def sSet (i : Nat) (f : EM) : SM := fun env st => sOf (f env st) env fun v st1 => .nx (env.set i (some v)) st1
def sExpr (f : EM) : SM := fun env st => sOf (f env st) env fun _ st1 => .nx env st1
def sRet (f : EM) : SM := fun env st => sOf (f env st) env fun v st1 => .rt v st1
def sRetN : SM := fun _ st => .rt .non st
def sIf (c : TM) (f g : SM) : SM := fun env st => sOf (c env st) env fun b st1 => if b = true then f env st1 else g env st1
def sBk : SM := fun env st => .bk env st
def sCt : SM := fun env st => .ct env st
section
variable {X : Cx} {W : WX} {s : Stmt} {ss : List Stmt} {f g : SM} {e : Expr} {fe : EM} {pos : Pos}
theorem mb_nil : MB X W [] sNil := pssI pss_nil fun D σ H ⟨ω, st, env, wd, re, h⟩ => h.nx_here wd re
theorem mb_cons (h1 : MS X W s f) (h2 : MB X W ss g) : MB X W (s :: ss) (sSeq f g) := by
  refine pssI (pss_cons h1 h2) ?_
  rintro D σ H ⟨ω, st, env, wd, re, h⟩
  refine ⟨ω, st, env, wd, re, ?_⟩
  unfold sSeq at h
  split at h
  · rename_i env' st' q
    rw [q]
    exact fun ω' H' σ' x w r => ⟨ω', st', env', w, r, h.shift x⟩
  · rename_i q
    cases r : f env st with
    | nx env' st' => exact (q env' st' r).elim
    | rt v st => rw [r] at h; exact h
    | bk env st => rw [r] at h; exact h
    | ct env st => rw [r] at h; exact h
    | err env n fs st => rw [r] at h; exact h
    | stuck => rw [r] at h; exact h
theorem mb_one (h1 : MS X W s f) : MB X W [s] f := pss_one h1
theorem ms_set {i : Nat} {x : Str} {pos' : Pos} (hN : X.N.Nodup) (he : ME X W e fe) (hi : X.N[i]? = some x := by rfl) (hx : Loc X.env.scope x := by first | exact Or.inl rfl | exact Or.inr rfl) (hs : swapsWith e (some (.Name x pos')) pos.line X.env = pure false := by rfl)
    (hf : X.fn x = true ∨ X.env.scope.names.lookup x = some .local := by first | exact .inl rfl | exact .inr rfl | assumption) : MS X W (.Assign [.Name x pos'] e pos) (sSet i fe) := by
  refine psI (ps_set hN hi hx he hs hf) ?_
  rintro D σ H ⟨ω, st, env, wd, re, h⟩
  refine ⟨ω, st, env, wd, re, (h.bind (Rel := RV X.K) re).mono ?_⟩
  rintro y H1 ⟨ω1, st1, v, e1, wd1, r1, h1⟩
  exact h1.nx_here wd1 ((re.mono e1.le).set r1 i)
theorem ms_expr (he : ME X W e fe) (hs : swapsWith e none pos.line X.env = pure false := by rfl) : MS X W (.Expr e pos) (sExpr fe) := by
  refine psI (ps_expr he hs) ?_
  rintro D σ H ⟨ω, st, env, wd, re, h⟩
  refine ⟨ω, st, env, wd, re, (h.bind (Rel := RV X.K) re).mono ?_⟩
  rintro y H1 ⟨ω1, st1, v, e1, wd1, r1, h1⟩
  exact h1.nx_here wd1 (re.mono e1.le)
theorem ms_ret (he : ME X W e fe) : MS X W (.Return (some e) pos) (sRet fe) := by
  refine psI (ps_ret he) ?_
  rintro D σ H ⟨ω, st, env, wd, re, h⟩
  refine ⟨ω, st, env, wd, re, (h.bind (Rel := RV X.K) re).mono ?_⟩
  rintro y H1 ⟨ω1, st1, v, e1, wd1, r1, h1⟩
  exact h1 ω1 H1 y (.refl _ _) wd1 r1
theorem ms_retN : MS X W (.Return none pos) sRetN := psI ps_retN fun D σ H ⟨ω, st, env, wd, re, h⟩ => h ω H .non (.refl _ _) wd .non
theorem ms_if {c : Expr} {a b : List Stmt} {fc : TM} (hc : MT X W c fc) (ha : MB X W a f) (hb : MB X W b g) : MS X W (.If c a b pos) (sIf fc f g) := by
  refine psI (ps_if hc ha hb) ?_
  rintro D σ H ⟨ω, st, env, wd, re, h⟩
  refine ⟨ω, st, env, wd, re, (h.bind (Rel := RQ) re).mono ?_⟩
  rintro y H1 ⟨ω1, st1, v, e1, wd1, r1, h1⟩
  have r1 : v = y := r1
  subst r1
  cases v with
  | true => exact iteT ⟨ω1, st1, env, wd1, re.mono e1.le, by simpa using h1⟩
  | false => exact iteF ⟨ω1, st1, env, wd1, re.mono e1.le, by simpa using h1⟩
theorem ms_break : MS X W (.Break pos) sBk := psI ps_break fun D σ H ⟨ω, st, env, wd, re, h⟩ => h ω H σ (.refl _ _) wd re
theorem ms_continue : MS X W (.Continue pos) sCt := psI ps_continue fun D σ H ⟨ω, st, env, wd, re, h⟩ => h ω H σ (.refl _ _) wd re
theorem ms_pass : MS X W (.Pass pos) sNil := psI ps_pass fun D σ H ⟨ω, st, env, wd, re, h⟩ => h.nx_here wd re
end
/-! ### targets -/
inductive Tg where
  | one (i : Nat)
  | tup (is : List Nat)
def Tg.slots : Tg → List Nat
  | .one i => [i]
  | .tup is => is
def setTgs : List Nat → List PV → PEnv → Option PEnv
  | [], [], env => some env
  | i :: is, v :: vs, env => setTgs is vs (env.set i (some v))
  | _, _, _ => none
def setTg : Tg → PV → PEnv → Option PEnv
  | .one i, v, env => some (env.set i (some v))
  | .tup is, .tup vs, env => setTgs is vs env
  | _, _, _ => none
def gTs : List Nat → TGs
  | [] => gNil
  | i :: is => gCons (gName i) (gTs is)
def gT (K : PySem.W.Frag) : Tg → TG
  | .one i => gName i
  | .tup is => gTup K is.length (gTs is)
/-- σ' is σ but for some slots -/
def But (vs : List Nat) (σ σ' : L2.St) : Prop := σ'.length = σ.length ∧ ∀ j, j ∉ vs → σ'[j]? = σ[j]?
theorem But.refl (vs : List Nat) (σ : L2.St) : But vs σ σ := ⟨rfl, fun _ _ => rfl⟩
theorem But.set {vs : List Nat} {σ σ' : L2.St} {i : Nat} (h : But vs (σ.set i x) σ') (m : i ∈ vs) : But vs σ σ' :=
  ⟨h.1.trans (by simp), fun j n => (h.2 j n).trans (List.getElem?_set_ne (fun e => n (by rw [← e]; exact m)))⟩
theorem wipe_in {σ : L2.St} {j : Nat} : ∀ {vs : List Nat}, j ∈ vs → (L2.wipe σ vs)[j]? = if j < σ.length then some none else none
  | [], m => by cases m
  | v :: vs, m => by
    unfold L2.wipe
    by_cases h : v = j
    · subst h
      by_cases hl : v < σ.length
      · rw [if_pos hl, List.getElem?_set_self (by rw [wipe_length]; exact hl)]
      · rw [if_neg hl, List.getElem?_eq_none (by rw [List.length_set, wipe_length]; omega)]
    · rw [List.getElem?_set_ne h]
      rcases List.mem_cons.mp m with e | m
      · exact absurd e.symm h
      · exact wipe_in m
theorem wipe_but {vs : List Nat} {σ σ' : L2.St} (h : But vs σ σ') : L2.wipe σ' vs = L2.wipe σ vs := by
  refine List.ext_getElem? fun j => ?_
  by_cases m : j ∈ vs
  · rw [wipe_in m, wipe_in m, h.1]
  · rw [wipe_out m, wipe_out m, h.2 j m]
section
variable {K : PySem.W.Frag} {ω : Wo} {st : Store} {H : Hp} {env env1 : PEnv} {σ : L2.St}
theorem gTs_step : ∀ {is : List Nat} {vs : List PV} {xs : List V} {env : PEnv} {σ : L2.St} {Q : L2.St → Hp → Prop}, REnv K ω env σ → Reps K ω vs xs → setTgs is vs env = some env1 → (∀ σ1, REnv K ω env1 σ1 → But is σ σ1 → Q σ1 H) → gTs is xs σ H Q
  | [], [], _, env, σ, Q, re, .nil, e, k => by
    cases e
    exact ⟨rfl, k σ re (.refl _ _)⟩
  | i :: is, v :: vs, _, env, σ, Q, re, .cons r t, e, k => by
    refine ⟨_, _, rfl, ?_⟩
    show gTs is _ _ _ _
    refine gTs_step (re.set r i) t e fun σ1 r1 b => k σ1 r1 ?_
    exact ⟨b.1.trans (by simp), fun j n => (b.2 j (fun m => n (List.mem_cons_of_mem _ m))).trans (List.getElem?_set_ne (fun e => n (by rw [e]; exact List.mem_cons_self)))⟩
theorem gT_step {tg : Tg} {v : PV} {x : V} {Q : L2.St → Hp → Prop} (wd : Wd K ω st H) (re : REnv K ω env σ) (r : Rep K ω v x) (e : setTg tg v env = some env1) (k : ∀ σ1, REnv K ω env1 σ1 → But tg.slots σ σ1 → Q σ1 H) : gT K tg x σ H Q := by
  cases tg with
  | one i =>
    cases e
    exact k _ (re.set r i) ⟨by simp, fun j n => List.getElem?_set_ne (fun e => n (by rw [e]; exact List.mem_cons_self))⟩
  | tup is =>
    cases v with
    | tup vs =>
      have e : setTgs is vs env = some env1 := e
      cases r with
      | @tup a ws _ ea rs =>
        have hlen : ∀ {is : List Nat} {vs : List PV} {env : PEnv}, setTgs is vs env = some env1 → vs.length = is.length := by
          intro is
          induction is with
          | nil => intro vs env e; cases vs with
            | nil => rfl
            | cons _ _ => cases e
          | cons i is ih => intro vs env e; cases vs with
            | nil => cases e
            | cons v vs => simp [ih (show setTgs is vs _ = some env1 from e)]
        exact ⟨a, ws, rfl, .of (wd.sub _ _ ea), by rw [← rs.length]; exact hlen e, gTs_step re rs e k⟩
    | _ => cases e
end
abbrev MG (X : Cx) (t : Expr) (tg : Tg) : Prop := PG X t (gT X.K tg)
abbrev MGs (X : Cx) (ts : List Expr) (is : List Nat) : Prop := PGs X ts (gTs is)
section
variable {X : Cx} {pos : Pos}
theorem mg_one {i : Nat} {x : Str} (hN : X.N.Nodup) (hi : X.N[i]? = some x := by rfl) (hx : Loc X.env.scope x := by first | exact Or.inl rfl | exact Or.inr rfl)
    (hf : X.fn x = true ∨ X.env.scope.names.lookup x = some .local := by first | exact .inl rfl | exact .inr rfl | assumption) : MG X (.Name x pos) (.one i) := pg_name hN hi hx hf
theorem mgs_nil : MGs X [] [] := pgs_nil
theorem mgs_cons {i : Nat} {x : Str} {es : List Expr} {is : List Nat} (hN : X.N.Nodup) (h2 : MGs X es is) (hi : X.N[i]? = some x := by rfl) (hx : Loc X.env.scope x := by first | exact Or.inl rfl | exact Or.inr rfl)
    (hf : X.fn x = true ∨ X.env.scope.names.lookup x = some .local := by first | exact .inl rfl | exact .inr rfl | assumption) (hs : (assignEach (.Name x pos :: es) X.env).map (·.2) = assign (.Name x pos) X.env :: (assignEach es X.env).map (·.2) := by rfl) :
    MGs X (.Name x pos :: es) (i :: is) := pgs_cons (pg_name hN hi hx hf) h2 hs
theorem mg_tup {es : List Expr} {k : Nat} {is : List Nat} (hc : X.calm = true) (h : MGs X es is)
    (hn : (assignEach es X.env).length = is.length := by rfl) (hst : (assignEach es X.env).findIdx? (·.1) = none := by rfl) : MG X (.Tuple es k pos) (.tup is) := pg_tup hc h hn hst
end
/-- target = value, the target a name or a tuple of names -/
def sTg (tg : Tg) (f : EM) : SM := fun env st => sOf (f env st) env fun v st1 => match setTg tg v env with
  | some env1 => .nx env1 st1
  | none => .stuck
/-- a, b = e1, e2 -/
def sPar (i j : Nat) (fs : AM) : SM := fun env st => sOf (fs env st) env fun vs st1 => match vs with
  | [v, w] => .nx ((env.set i (some v)).set j (some w)) st1
  | _ => .stuck
/-- o[i] = e, by values -/
def StS (X : Cx) (p : PV → PV → PV → Store → Res Unit) : Prop :=
  ∃ t, PSet X t ∧ ∀ (E : XK) (ω : Wo) (st : Store) (H : Hp) (o i v : PV) (xo xi x : V) (Q : Hp → Prop), Wd X.K ω st H → Rep X.K ω o xo → Rep X.K ω i xi → Rep X.K ω v x → After (gd X) E ω H (p o i v st) (fun _ _ (_ : Unit) => True) (fun _ H' => Q H') → t xo xi x H Q
def sSub (p : PV → PV → PV → Store → Res Unit) (fo fi fv : EM) : SM := fun env st => sOf (fv env st) env fun v st1 => sOf (fo env st1) env fun o st2 => sOf (fi env st2) env fun i st3 => sOf (p o i v st3) env fun _ st4 => .nx env st4
section
variable {X : Cx} {W : WX} {e : Expr} {fe fo fi : EM} {pos : Pos}
theorem ms_tg {t : Expr} {tg : Tg} (hg : MG X t tg) (he : ME X W e fe) (hs : swapsWithSole [t] e pos.line X.env = pure false := by rfl) (hw : swappedStores [t] e X.env = pure none := by rfl)
    (h1 : (assignEach [t] X.env).map (·.2) = [assign t X.env] := by rfl) : MS X W (.Assign [t] e pos) (sTg tg fe) := by
  refine psI (ps_asg he hg hs hw h1) ?_
  rintro D σ H ⟨ω, st, env, wd, re, h⟩
  refine ⟨ω, st, env, wd, re, (h.bind (Rel := RV X.K) re).mono ?_⟩
  rintro y H1 ⟨ω1, st1, v, e1, wd1, r1, h1⟩
  split at h1
  · rename_i env1 q
    exact gT_step wd1 (re.mono e1.le) r1 q fun σ1 r _ => h1.nx_here wd1 r
  · exact False.elim h1
theorem ms_par {i j : Nat} {x y : Str} {a b : Expr} {fs : AM} {px py pt : Pos} {kt k2 pt2} (hc : X.calm = true) (hN : X.N.Nodup) (hij : i ≠ j) (ha : MA X W [a, b] fs)
    (hi : X.N[i]? = some x := by rfl) (hj : X.N[j]? = some y := by rfl)
    (hx : X.env.scope.names.lookup x = some .local := by rfl) (hy : X.env.scope.names.lookup y = some .local := by rfl)
    (hw : swappedStores [.Tuple [.Name x px, .Name y py] kt pt] (.Tuple [a, b] k2 pt2) X.env = pure (some [x, y]) := by rfl)
    (hs : swapsWithSole [.Tuple [.Name x px, .Name y py] kt pt] (.Tuple [a, b] k2 pt2) pos.line X.env = pure false := by rfl) :
    MS X W (.Assign [.Tuple [.Name x px, .Name y py] kt pt] (.Tuple [a, b] k2 pt2) pos) (sPar i j fs) := by
  refine psI (ps_par hc hN hi hj hij hx hy ha hw hs) ?_
  rintro D σ H ⟨ω, st, env, wd, re, h⟩
  refine ⟨ω, st, env, wd, re, (h.bind (Rel := RL X.K) re).mono ?_⟩
  rintro ys H1 ⟨ω1, st1, vs, e1, wd1, r1, h1⟩
  split at h1
  · rename_i v w
    cases r1 with
    | cons rv r =>
      cases r with
      | cons rw' r =>
        cases r
        exact ⟨_, _, rfl, h1.nx_here wd1 (((re.mono e1.le).set rv i).set rw' j)⟩
  · exact False.elim h1
theorem ms_sub {o i : Expr} {tpos : Pos} {p} (hS : StS X p) (ho : ME X W o fo) (hi : ME X W i fi) (he : ME X W e fe)
    (ha : ∀ v, assign (.Subscript o i tpos) X.env v = (do
      let ov ← holding [v] (eval o X.env)
      let iv ← holding [v, ov] (eval i X.env)
      standAt tpos
      holding [v, ov, iv] (setItem ov iv v)
      release [v, ov, iv] []) := by intro _; rfl)
    (hs : swapsWithSole [.Subscript o i tpos] e pos.line X.env = pure false := by rfl) (hw : swappedStores [.Subscript o i tpos] e X.env = pure none := by rfl)
    (h1 : (assignEach [.Subscript o i tpos] X.env).map (·.2) = [assign (.Subscript o i tpos) X.env] := by rfl) : MS X W (.Assign [.Subscript o i tpos] e pos) (sSub p fo fi fe) := by
  obtain ⟨t, ht, hi'⟩ := hS
  refine psI (ps_asg he (pg_sub ho hi ht ha) hs hw h1) ?_
  rintro D σ H ⟨ω, st, env, wd, re, h⟩
  refine ⟨ω, st, env, wd, re, (h.bind (Rel := RV X.K) re).mono ?_⟩
  rintro y H1 ⟨ω1, st1, v, e1, wd1, r1, h1⟩
  have re1 := re.mono e1.le
  refine ⟨ω1, st1, env, wd1, re1, (h1.bind (Rel := RV X.K) re1).mono ?_⟩
  rintro yo H2 ⟨ω2, st2, vo, e2, wd2, r2, h2⟩
  have re2 := re1.mono e2.le
  refine ⟨ω2, st2, env, wd2, re2, (h2.bind (Rel := RV X.K) re2).mono ?_⟩
  rintro yi H3 ⟨ω3, st3, vi, e3, wd3, r3, h3⟩
  have re3 := re2.mono e3.le
  refine hi' (wx W σ) ω3 st3 H3 vo vi v yo yi y _ wd3 (r2.mono e3.le) r3 (r1.mono (e2.le.trans e3.le)) ((h3.bind (Rel := fun _ _ _ => True) re3).mono ?_)
  rintro _ H4 ⟨ω4, st4, _, e4, wd4, _, h4⟩
  exact h4.nx_here wd4 (re3.mono e4.le)
end
/-! ### walks -/
/-- the items of a walk; pl: the place of the store where they stand, and must stand while it is walked -/
structure Itms where
  xs : List PV
  pl : Option (Nat × List PV)
def Itms.ok (p : Itms) (st : Store) : Prop := match p.pl with
  | none => True
  | some (l, ys) => st[l]? = some (.lst ys)
/-- the iterator J gives the items of p -/
structure ItR (K : PySem.W.Frag) (ω : Wo) (p : Itms) (J : It) : Prop where
  goes : ∀ i ω1 st H, i < p.xs.length → ω.Le ω1 → Wd K ω1 st H → p.ok st → J.go i H
  stops : ∀ ω1 st H, ω.Le ω1 → Wd K ω1 st H → p.ok st → J.stop p.xs.length H
  yields : ∀ i ω1 st H x H', i < p.xs.length → ω.Le ω1 → Wd K ω1 st H → p.ok st → J.yld i H x H' → ∃ ω2 v, Ext ω1 H ω2 H' ∧ Wd K ω2 st H' ∧ p.xs[i]? = some v ∧ Rep K ω2 v x
abbrev RI (K : PySem.W.Frag) : Wo → Itms → It → Prop := fun ω p J => ItR K ω p J
abbrev IM := PEnv → Store → Res Itms
abbrev MI (X : Cx) (W : WX) (t e : Expr) (f : IM) : Prop := PI X t e (tG X W (RI X.K) f)
theorem piI {X : Cx} {t e : Expr} {w w' : TI} (h : PI X t e w) (i : ∀ σ H Q, w' σ H Q → w σ H Q) : PI X t e w' := ⟨fun pins s σ H R I q => h.run pins s σ H R I (i σ H R q)⟩
open Classical in
noncomputable def sForL (tg : Tg) (body : SM) (ok : Store → Prop) : List PV → PEnv → Store → SR
  | [], env, st => if ok st then .nx env st else .stuck
  | v :: r, env, st => if ok st then match setTg tg v env with
    | none => .stuck
    | some env1 => match body env1 st with
      | .nx e s => sForL tg body ok r e s
      | .ct e s => sForL tg body ok r e s
      | .bk e s => .nx e s
      | .rt v s => .rt v s
      | .err e n fs s => .err e n fs s
      | .stuck => .stuck
    else .stuck
noncomputable def sFor (it : IM) (tg : Tg) (body : SM) : SM := fun env st => sOf (it env st) env fun p st1 => sForL tg body p.ok p.xs env st1
section
variable {X : Cx} {W : WX} {pos : Pos}
theorem ms_for {t iter : Expr} {body : List Stmt} {it : IM} {tg : Tg} {fb : SM} (hp : PassesOwn (model X.prog X.w) X.A X.env X.xe) (hc : X.calm = true) (hi : MI X W t iter it) (hg : MG X t tg) (hb : MB X W body fb)
    (hs : ∀ x, foldedSetIterable iter X.env x = pure x := by intro _; rfl) : MS X W (.For t iter body [] pos) (sFor it tg fb) := by
  refine psI (ps_for hp hc hi hg hb hs) ?_
  rintro D σ H ⟨ω, st, env, wd, re, h⟩
  refine ⟨ω, st, env, wd, re, (h.bind (Rel := RI X.K) re).mono ?_⟩
  rintro J H1 ⟨ω1, st1, ⟨xs, pl⟩, e1, wd1, r1, h1⟩
  refine ⟨fun i m σ' H' => m = xs.length - i ∧ i ≤ xs.length ∧ ∃ ω' st' env', ω1.Le ω' ∧ Wd X.K ω' st' H' ∧ REnv X.K ω' env' σ' ∧ AfterS X W ω' H' (sForL tg fb (Itms.ok ⟨xs, pl⟩) (xs.drop i) env' st') D,
    ⟨xs.length, by simp, Nat.zero_le _, ω1, st1, env, .refl _, wd1, re.mono e1.le, by simpa using h1⟩, ?_⟩
  rintro i m σ2 H2 ⟨rfl, hi, ω2, st2, env2, le2, wd2, re2, h2⟩
  have hok : Itms.ok ⟨xs, pl⟩ st2 := by
    by_cases hk : Itms.ok ⟨xs, pl⟩ st2
    · exact hk
    · cases q : xs.drop i with
      | nil => rw [q] at h2; unfold sForL at h2; rw [if_neg hk] at h2; exact False.elim h2
      | cons v r => rw [q] at h2; unfold sForL at h2; rw [if_neg hk] at h2; exact False.elim h2
  by_cases hlt : i < xs.length
  · refine .inr ⟨r1.goes i ω2 st2 H2 hlt le2 wd2 hok, fun σ' H' => ∃ ω' st' env', ω1.Le ω' ∧ Wd X.K ω' st' H' ∧ REnv X.K ω' env' σ' ∧ AfterS X W ω' H' (sForL tg fb (Itms.ok ⟨xs, pl⟩) (xs.drop (i + 1)) env' st') D,
      fun σ' H' q => ⟨xs.length - (i + 1), by omega, rfl, hlt, q⟩, fun x H3 y => ?_⟩
    obtain ⟨ω3, v, e3, wd3, hv, r3⟩ := r1.yields i ω2 st2 H2 x H3 hlt le2 wd2 hok y
    have hd : xs.drop i = v :: xs.drop (i + 1) := by
      have hv : xs[i]? = some v := hv
      rw [List.getElem?_eq_getElem hlt] at hv
      cases hv
      exact List.drop_eq_getElem_cons hlt
    rw [hd] at h2
    have h2 := h2.shift e3
    unfold sForL at h2
    rw [if_pos hok] at h2
    split at h2
    · exact False.elim h2
    · rename_i env3 q3
      refine gT_step wd3 (re2.mono e3.le) r3 q3 fun σ4 re4 _ => ?_
      refine ⟨ω3, st2, env3, wd3, re4, ?_⟩
      have le3 := le2.trans e3.le
      split at h2
      · rename_i q; rw [q]
        exact fun ω' H' σ' x w r => ⟨ω', _, _, le3.trans x.le, w, r, h2.shift x⟩
      · rename_i q; rw [q]
        exact fun ω' H' σ' x w r => ⟨ω', _, _, le3.trans x.le, w, r, h2.shift x⟩
      · rename_i q; rw [q]
        exact h2
      · rename_i q; rw [q]
        exact h2
      · rename_i q; rw [q]
        exact h2
      · exact False.elim h2
  · have e : i = xs.length := by omega
    subst e
    rw [List.drop_length] at h2
    unfold sForL at h2
    rw [if_pos hok] at h2
    exact .inl ⟨r1.stops ω2 st2 H2 le2 wd2 hok, AfterS.nx_here h2 wd2 re2⟩
end
/-! ### comprehensions -/
open Classical in
noncomputable def compL (tg : Tg) (test : TM) (elt : EM) (ok : Store → Prop) : List PV → PEnv → Store → List PV → Res (List PV)
  | [], _, st, acc => if ok st then .ok acc st else .stuck
  | v :: r, env, st, acc => if ok st then match setTg tg v env with
    | none => .stuck
    | some env1 => (noErr (test env1 st)).bind fun b st1 =>
      if b = true then (noErr (elt env1 st1)).bind fun y st2 => if acc.length < sizeLine then compL tg test elt ok r env st2 (acc ++ [y]) else .stuck
      else compL tg test elt ok r env st1 acc
    else .stuck
def fin (loc : Bool) (ys : List PV) (st : Store) : Res PV := match loc with
  | false => .ok (.lst ys) st
  | true => .ok (.loc st.length) (st ++ [.lst ys])
noncomputable def eCompG (loc : Bool) (own : List Nat) (it : IM) (tg : Tg) (test : TM) (elt : EM) : EM := fun env st => (it env st).bind fun p st1 => (compL tg test elt p.ok p.xs (wipeP env own) st1 []).bind fun ys st2 => fin loc ys st2
noncomputable abbrev eComp (own : List Nat) (it : IM) (tg : Tg) (test : TM) (elt : EM) : EM := eCompG false own it tg test elt
noncomputable abbrev eCompLoc (own : List Nat) (it : IM) (tg : Tg) (test : TM) (elt : EM) : EM := eCompG true own it tg test elt
def tYesM : TM := fun _ st => .ok true st
abbrev MTs (X : Cx) (W : WX) (es : List Expr) (f : TM) : Prop := PTs X es (tG X W RQ f)
theorem ptsI {X : Cx} {e : List Expr} {t t' : TT} (h : PTs X e t) (i : ∀ σ H Q, t' σ H Q → t σ H Q) : PTs X e t' := ⟨fun pins s σ H Q I q => h.run pins s σ H Q I (i σ H Q q)⟩
theorem mts_nil {X : Cx} {W : WX} : MTs X W [] tYesM := ptsI pts_nil fun σ H Q ⟨ω, st, env, wd, re, h⟩ => h.ok_here wd rfl
theorem mts_one {X : Cx} {W : WX} {c : Expr} {f : TM} (h : MT X W c f) : MTs X W [c] f := pts_one h
abbrev W0 : WX := fun _ _ _ _ => False
section
variable {K : PySem.W.Frag} {ω : Wo} {st : Store} {H : Hp}
theorem Wd.other (h : Wd K ω st H) {p : Addr} {o : HO} (nF : ω.F p = none) (nρ : p ∉ ω.ρ) : Wd K ω st (upd H p o) := by
  refine ⟨fun b u e => ?_, h.len, h.nd, h.sep, fun l a q e1 e2 => ?_⟩
  · rw [upd_ne (ne_of_none e nF)]
    exact h.sub b u e
  · have na : a ≠ p := fun z => nρ (by rw [← z]; exact List.mem_of_getElem? e1)
    have hq := h.obj l a q e1 e2
    cases q with
    | lst xs =>
      obtain ⟨vs, e, r⟩ := hq
      exact ⟨vs, by rw [upd_ne na]; exact e, r⟩
/-- an object that stands is frozen -/
theorem Wd.freeze (h : Wd K ω st H) {p : Addr} {o : HO} (e : H p = some o) (nF : ω.F p = none) (nρ : p ∉ ω.ρ) : Wd K (ω.fz p o) st H := by
  have le := Wo.fz_le (o := o) nF
  refine ⟨fun b u q => ?_, h.len, h.nd, fun a m => ?_, fun l a q e1 e2 => ?_⟩
  · by_cases hb : b = p
    · subst hb
      have q : upd ω.F b o b = some u := q
      rw [upd_same] at q
      cases q
      exact e
    · have q : upd ω.F p o b = some u := q
      rw [upd_ne hb] at q
      exact h.sub b u q
  · show upd ω.F p o a = none
    rw [upd_ne (fun z => nρ (by rw [← z]; exact m))]
    exact h.sep a m
  · have hq := h.obj l a q e1 e2
    cases q with
    | lst xs =>
      obtain ⟨vs, e, r⟩ := hq
      exact ⟨vs, e, r.mono le⟩
/-- a list that stands becomes a place of the store -/
theorem Wd.adopt (h : Wd K ω st H) {p : Addr} {vs : List V} {xs : List PV} (e : H p = some (.lst vs)) (nF : ω.F p = none) (nρ : p ∉ ω.ρ) (r : Reps K ω xs vs) : Wd K (ω.nw p) (st ++ [.lst xs]) H := by
  have le : ω.Le (ω.nw p) := Wo.nw_le
  refine ⟨h.sub, by simp [h.len], ?_, fun a m => ?_, fun l a q e1 e2 => ?_⟩
  · refine List.nodup_append.mpr ⟨h.nd, by simp, fun a ha b hb => ?_⟩
    have e : b = p := by simpa using hb
    subst e
    intro z
    exact nρ (by rw [← z]; exact ha)
  · rcases List.mem_append.mp m with m | m
    · exact h.sep a m
    · have e : a = p := by simpa using m
      subst e; exact nF
  · rcases Nat.lt_or_ge l st.length with hl | hl
    · have e1' : ω.ρ[l]? = some a := by
        have e1 : (ω.ρ ++ [p])[l]? = some a := e1
        rw [List.getElem?_append_left (by rw [h.len]; exact hl)] at e1
        exact e1
      rw [List.getElem?_append_left hl] at e2
      have hq := h.obj l a q e1' e2
      cases q with
      | lst ys =>
        obtain ⟨ws, e, r'⟩ := hq
        exact ⟨ws, e, r'.mono le⟩
    · have e1 : (ω.ρ ++ [p])[l]? = some a := e1
      rw [List.getElem?_append_right (by rw [h.len]; exact hl)] at e1
      rw [List.getElem?_append_right hl] at e2
      have z : l - st.length = 0 := by
        rcases Nat.eq_zero_or_pos (l - st.length) with z | z
        · exact z
        · rw [List.getElem?_eq_none (by simp only [List.length_singleton]; omega)] at e2; cases e2
      rw [z] at e2
      rw [h.len, z] at e1
      simp only [List.getElem?_cons_zero, Option.some.injEq] at e1 e2
      subst e1
      subst e2
      exact ⟨vs, e, r.mono le⟩
end
/-- an object that stands and is told of nowhere, between two heaps -/
theorem Ext.apart {ω ω' : Wo} {H H' : Hp} (x : Ext ω H ω' H') {D : Addr} {o : HO} (e : H D = some o) (nF : ω.F D = none) (nρ : D ∉ ω.ρ) : H' D = some o ∧ ω'.F D = none ∧ D ∉ ω'.ρ := by
  refine ⟨x.oth D o e nρ, ?_, fun m => ?_⟩
  · cases q : ω'.F D with
    | none => rfl
    | some u =>
      rcases x.nF D (by rw [q]; simp) with z | z
      · exact absurd nF z
      · rw [e] at z; cases z
  · rcases x.nρ D m with z | z
    · exact nρ z
    · rw [e] at z; cases z
section
variable {X : Cx} {W : WX} {pos : Pos}
/-- behind i items: acc made so far lies at D -/
structure CompAt (X : Cx) (loc : Bool) (G : Gd) (E : XK) (ω1 : Wo) (H1 : Hp) (D : Addr) (tg : Tg) (test : TM) (elt : EM) (env : PEnv) (p : Itms) (Q : VK) (i : Nat) (H : Hp) : Prop where
  ex : ∃ ω' st' acc vs, Ext ω1 H1 ω' H ∧ Wd X.K ω' st' H ∧ H D = some (.lst vs) ∧ ω'.F D = none ∧ D ∉ ω'.ρ ∧ Reps X.K ω' acc vs ∧
    After G E ω1 H1 ((compL tg test elt p.ok (p.xs.drop i) env st' acc).bind fun ys st2 => fin loc ys st2) (RV X.K) Q
theorem comp_step {loc : Bool} {g : TG} {tt : TT} {te : TE} {own : List Nat} {it : IM} {tg : Tg} {test : TM} {elt : EM} {wi : TI} {σ : L2.St} {H : Hp} {Q : VK}
    (hwi : wi = tG X W (RI X.K) it) (hg : g = gT X.K tg) (htt : tt = tG X W0 RQ test) (hte : te = tG X W0 (RV X.K) elt) (hsl : ∀ i ∈ tg.slots, i ∈ own)
    (h : tG X W (RV X.K) (eCompG loc own it tg test elt) σ H Q) : tLc wi g tt te own σ H Q := by
  subst hwi hg htt hte
  obtain ⟨ω, st, env, wd, re, h⟩ := h
  refine ⟨ω, st, env, wd, re, (After.bind (Rel := RI X.K) h).mono ?_⟩
  rintro J H1 ⟨ω1, st1, ⟨xs, pl⟩, e1, wd1, r1, h1⟩
  intro D hD
  have re1 : REnv X.K ω1 (wipeP env own) (L2.wipe σ own) := (re.mono e1.le).wipe own
  have nFD : ω1.F D = none := wd1.fresh hD
  have nρD : D ∉ ω1.ρ := fun m => by
    obtain ⟨u, e⟩ := wd1.there m
    rw [hD] at e; cases e
  have x0 : Ext ω1 H1 ω1 (upd H1 D (.lst [])) := by
    refine ⟨.refl _, fun b o e _ => ?_, fun b z => ?_, fun b z => .inl z, fun b m => .inl m⟩
    · rw [upd_ne (ne_of_none e hD)]; exact e
    · by_cases hb : b = D
      · subst hb; rw [upd_same]; simp
      · rw [upd_ne hb]; exact z
  refine ⟨fun i m H' => m = xs.length - i ∧ i ≤ xs.length ∧ CompAt X loc (gd X) (wx W σ) ω1 H1 D tg test elt (wipeP env own) ⟨xs, pl⟩ Q i H',
    ⟨xs.length, by simp, Nat.zero_le _, ω1, st1, [], [], x0, wd1.other nFD nρD, upd_same, nFD, nρD, .nil, by simpa using h1⟩, ?_⟩
  rintro i m H2 ⟨rfl, hi, ⟨ω2, st2, acc, vs, x2, wd2, hD2, nF2, nρ2, ra, h2⟩⟩
  have le2 := x2.le
  have h2 : After (gd X) (wx W σ) ω1 H1 ((compL tg test elt (Itms.ok ⟨xs, pl⟩) (xs.drop i) (wipeP env own) st2 acc).bind fun ys st2 => fin loc ys st2) (RV X.K) Q := h2
  have hok : Itms.ok ⟨xs, pl⟩ st2 := by
    by_cases hk : Itms.ok ⟨xs, pl⟩ st2
    · exact hk
    · cases q : xs.drop i with
      | nil => rw [q] at h2; unfold compL at h2; rw [if_neg hk] at h2; exact False.elim h2
      | cons v r => rw [q] at h2; unfold compL at h2; rw [if_neg hk] at h2; exact False.elim h2
  by_cases hlt : i < xs.length
  · refine .inr ⟨r1.goes i ω2 st2 H2 hlt le2 wd2 hok, fun H' => CompAt X loc (gd X) (wx W σ) ω1 H1 D tg test elt (wipeP env own) ⟨xs, pl⟩ Q (i + 1) H', fun H' q => ⟨xs.length - (i + 1), by omega, rfl, hlt, q⟩, fun x H3 y => ?_⟩
    obtain ⟨ω3, v, e3, wd3, hv, r3⟩ := r1.yields i ω2 st2 H2 x H3 hlt le2 wd2 hok y
    have hd : xs.drop i = v :: xs.drop (i + 1) := by
      have hv : xs[i]? = some v := hv
      rw [List.getElem?_eq_getElem hlt] at hv
      cases hv
      exact List.drop_eq_getElem_cons hlt
    rw [hd] at h2
    obtain ⟨hD3, nF3, nρ3⟩ := e3.apart hD2 nF2 nρ2
    unfold compL at h2
    rw [if_pos hok] at h2
    split at h2
    · exact False.elim h2
    · rename_i env3 q3
      have re3 := re1.mono (le2.trans e3.le)
      refine gT_step wd3 re3 r3 q3 fun σ4 re4 b4 => ⟨?_, ?_⟩
      · have b : But own (L2.wipe σ own) σ4 := ⟨b4.1, fun j n => b4.2 j fun m => n (hsl j m)⟩
        rw [wipe_but b]
        exact wipe_but ⟨wipe_length σ own, fun j n => wipe_out n⟩
      · -- the test
        have ht : After (gd X) (wx W0 σ4) ω3 H3 (test env3 st2) RQ fun b H4 => ∃ ω4 st4, Ext ω3 H3 ω4 H4 ∧ Wd X.K ω4 st4 H4 ∧
            After (gd X) (wx W σ) ω1 H1 ((if b = true then (noErr (elt env3 st4)).bind fun y st5 => if acc.length < sizeLine then compL tg test elt (Itms.ok ⟨xs, pl⟩) (xs.drop (i + 1)) (wipeP env own) st5 (acc ++ [y]) else .stuck
              else compL tg test elt (Itms.ok ⟨xs, pl⟩) (xs.drop (i + 1)) (wipeP env own) st4 acc).bind fun ys st2 => fin loc ys st2) (RV X.K) Q := by
          cases qt : test env3 st2 with
          | ok b st' =>
            rw [qt] at h2
            intro ω' H' b' ex w rb
            have rb : b = b' := rb
            subst rb
            exact ⟨ω', st', ex, w, h2⟩
          | err n f st' => rw [qt] at h2; exact False.elim h2
          | stuck => rw [qt] at h2; exact False.elim h2
        refine ⟨ω3, st2, env3, wd3, re4, ht.mono ?_⟩
        rintro b H4 ⟨ω4, st4, e4, wd4, h4⟩
        obtain ⟨hD4, nF4, nρ4⟩ := e4.apart hD3 nF3 nρ3
        have ra4 := ra.mono (e3.le.trans e4.le)
        have x4 := x2.trans (e3.trans e4)
        cases b with
        | false =>
          refine iteF ⟨ω4, st4, acc, vs, x4, wd4, hD4, nF4, nρ4, ra4, ?_⟩
          simpa using h4
        | true =>
          refine iteT ?_
          rw [if_pos rfl] at h4
          have he : After (gd X) (wx W0 σ4) ω4 H4 (elt env3 st4) (RV X.K) fun y H5 => ∃ ω5 st5 yv, Ext ω4 H4 ω5 H5 ∧ Wd X.K ω5 st5 H5 ∧ Rep X.K ω5 yv y ∧ acc.length < sizeLine ∧
              After (gd X) (wx W σ) ω1 H1 ((compL tg test elt (Itms.ok ⟨xs, pl⟩) (xs.drop (i + 1)) (wipeP env own) st5 (acc ++ [yv])).bind fun ys st2 => fin loc ys st2) (RV X.K) Q := by
            cases qe : elt env3 st4 with
            | ok y st' =>
              rw [qe] at h4
              have h4 : After (gd X) (wx W σ) ω1 H1 ((if acc.length < sizeLine then compL tg test elt (Itms.ok ⟨xs, pl⟩) (xs.drop (i + 1)) (wipeP env own) st' (acc ++ [y]) else Res.stuck).bind fun ys st2 => fin loc ys st2) (RV X.K) Q := h4
              intro ω' H' y' ex w ry
              by_cases hz : acc.length < sizeLine
              · rw [if_pos hz] at h4
                exact ⟨ω', st', y, ex, w, ry, hz, h4⟩
              · rw [if_neg hz] at h4
                exact False.elim h4
            | err n f st' => rw [qe] at h4; exact False.elim h4
            | stuck => rw [qe] at h4; exact False.elim h4
          refine ⟨ω4, st4, env3, wd4, re4.mono e4.le, he.mono ?_⟩
          rintro yv H5 ⟨ω5, st5, y, e5, wd5, r5, hz, h5⟩
          obtain ⟨hD5, nF5, nρ5⟩ := e5.apart hD4 nF4 nρ4
          have ra5 := ra4.mono e5.le
          refine ⟨vs, hD5, by rw [← ra.length]; exact hz, ?_⟩
          have xD : Ext ω1 H1 ω5 (upd H5 D (.lst (vs ++ [yv]))) := by
            have z := x4.trans e5
            refine ⟨z.le, fun b o e n => ?_, fun b q => ?_, z.nF, z.nρ⟩
            · rw [upd_ne (ne_of_none e hD)]; exact z.oth b o e n
            · by_cases hb : b = D
              · subst hb; rw [upd_same]; simp
              · rw [upd_ne hb]; exact z.live b q
          exact ⟨ω5, st5, acc ++ [y], vs ++ [yv], xD, wd5.other nF5 nρ5, upd_same, nF5, nρ5, ra5.append (Reps.one r5), h5⟩
  · have e : i = xs.length := by omega
    subst e
    rw [List.drop_length] at h2
    unfold compL at h2
    rw [if_pos hok] at h2
    refine .inl ⟨r1.stops ω2 st2 H2 le2 wd2 hok, ?_⟩
    cases loc with
    | false =>
      have h2 : After (gd X) (wx W σ) ω1 H1 (.ok (.lst acc) st2) (RV X.K) Q := h2
      have w := wd2.freeze hD2 nF2 nρ2
      have le := Wo.fz_le (o := .lst vs) nF2
      refine h2 _ H2 (.ref D) ⟨le2.trans le, x2.oth, x2.live, fun b z => ?_, x2.nρ⟩ w (.lst upd_same (ra.mono le))
      by_cases hb : b = D
      · subst hb; exact .inr hD
      · have z : upd ω2.F D (.lst vs) b ≠ none := z
        rw [upd_ne hb] at z
        exact x2.nF b z
    | true =>
      have h2 : After (gd X) (wx W σ) ω1 H1 (.ok (.loc st2.length) (st2 ++ [.lst acc])) (RV X.K) Q := h2
      have w := wd2.adopt hD2 nF2 nρ2 ra
      refine h2 _ H2 (.ref D) ⟨le2.trans Wo.nw_le, x2.oth, x2.live, x2.nF, fun b m => ?_⟩ w (.loc ?_)
      · rcases List.mem_append.mp m with m | m
        · exact x2.nρ b m
        · have e : b = D := by simpa using m
          subst e; exact .inr hD
      · rw [← wd2.len]
        simp
theorem me_compG (loc : Bool) {elt tg iter : Expr} {ifs : List Expr} {scope : Scope} {own : List (Str × Nat)} {it : IM} {t : Tg} {ft : TM} {fe : EM} (hc : X.calm = true) (hN : X.N.Nodup) (hi : MI X W tg iter it) (ok : BlkOk X.N X.env.scope scope own)
    (hg : ∀ (s : Shared) (H : Hp) (C : Addr) (cl : List (Str × Addr)) (fp : List Addr), MG (X.blk s H scope (compEnvC scope cl C X.env) fp) tg t)
    (ht : ∀ (s : Shared) (H : Hp) (C : Addr) (cl : List (Str × Addr)) (fp : List Addr), MTs (X.blk s H scope (compEnvC scope cl C X.env) fp) W0 ifs ft)
    (he : ∀ (s : Shared) (H : Hp) (C : Addr) (cl : List (Str × Addr)) (fp : List Addr), ME (X.blk s H scope (compEnvC scope cl C X.env) fp) W0 elt fe)
    (hsl : ∀ i ∈ t.slots, i ∈ own.map (·.2) := by decide) (hs : ∀ x, foldedSetIterable iter X.env x = pure x := by intro _; rfl) :
    ME X W (.ListComp elt [⟨tg, iter, ifs, 0⟩] scope pos) (eCompG loc (own.map (·.2)) it t ft fe) :=
  peI (pe_lc (X := X) (g := gT X.K t) (tt := tG X W0 RQ ft) (te := tG X W0 (RV X.K) fe) hc hN hi ok hg ht he hs) fun σ H Q h => comp_step rfl rfl rfl rfl hsl h
theorem ms_setCompG (loc : Bool) {i : Nat} {y : Str} {py spos : Pos} {elt tg iter : Expr} {ifs : List Expr} {scope : Scope} {own : List (Str × Nat)} {it : IM} {t : Tg} {ft : TM} {fe : EM} (hc : X.calm = true) (hN : X.N.Nodup) (hi : MI X W tg iter it) (ok : BlkOk X.N X.env.scope scope own)
    (hg : ∀ (s : Shared) (H : Hp) (C : Addr) (cl : List (Str × Addr)) (fp : List Addr), MG (X.blk s H scope (compEnvC scope cl C X.env) fp) tg t)
    (ht : ∀ (s : Shared) (H : Hp) (C : Addr) (cl : List (Str × Addr)) (fp : List Addr), MTs (X.blk s H scope (compEnvC scope cl C X.env) fp) W0 ifs ft)
    (he : ∀ (s : Shared) (H : Hp) (C : Addr) (cl : List (Str × Addr)) (fp : List Addr), ME (X.blk s H scope (compEnvC scope cl C X.env) fp) W0 elt fe)
    (hy : X.N[i]? = some y := by rfl) (hyl : X.env.scope.names.lookup y = some .local := by rfl)
    (hsw : swapsWith (.ListComp elt [⟨tg, iter, ifs, 0⟩] scope pos) (some (.Name y py)) spos.line X.env = pure true := by exact sw_true rfl rfl rfl (by decide +kernel))
    (hsl : ∀ i ∈ t.slots, i ∈ own.map (·.2) := by decide) (hs : ∀ x, foldedSetIterable iter X.env x = pure x := by intro _; rfl) :
    MS X W (.Assign [.Name y py] (.ListComp elt [⟨tg, iter, ifs, 0⟩] scope pos) spos) (sSet i (eCompG loc (own.map (·.2)) it t ft fe)) := by
  refine psI (ps_setLc (g := gT X.K t) (tt := tG X W0 RQ ft) (te := tG X W0 (RV X.K) fe) hc hN hy hyl hsw hi ok hg ht he hs) ?_
  rintro D σ H ⟨ω, st, env, wd, re, h⟩
  refine comp_step rfl rfl rfl rfl hsl ⟨ω, st, env, wd, re, (h.bind (Rel := RV X.K) re).mono ?_⟩
  rintro y H1 ⟨ω1, st1, v, e1, wd1, r1, h1⟩
  exact h1.nx_here wd1 ((re.mono e1.le).set r1 i)
end
/-! ### a def of the text -/
def runBody (N : Nat) (f : SM) : List PV → Store → Res PV := fun args st => match f (args.map some ++ List.replicate (N - args.length) none) st with
  | .nx _ st' => .ok .non st'
  | .rt v st' => .ok v st'
  | .err _ n fs st' => .err n fs st'
  | _ => .stuck
theorem Reps.rep_append {K : PySem.W.Frag} {ω : Wo} : ∀ {vs : List PV} {xs : List V} (m : Nat), Reps K ω vs xs → REnv K ω (vs.map some ++ List.replicate m none) (xs.map some ++ List.replicate m none)
  | _, _, m, .nil => ⟨by simp, fun i v e => by
      simp only [List.map_nil, List.nil_append] at e
      rw [List.getElem?_replicate] at e
      split at e <;> cases e⟩
  | _, _, m, .cons r t => by
    have ih := Reps.rep_append m t
    refine ⟨by simpa using ih.len, fun i v e => ?_⟩
    cases i with
    | zero => simp at e; subst e; exact ⟨_, by simp, r⟩
    | succ i => exact ih.at' i v (by simpa using e)
section
variable {P : Program} {w : World} {K : PySem.W.Frag} {mg : Str → Option Value} {base : Heap}
/-- THE RULE for a def that lets no exception out -/
theorem okP {x qual : Str} {st : Stmt} {f : Addr} {fd : FuncData} {N ps : List Str} {k : Nat} {fm : SM} (F : Fun K x qual st f fd) (S : FnScope N ps (defScope st))
    (hbody : ∀ (cdv : Value) (A : Around) (outer : List Env) (s : Shared) (H : Hp) (E : XK), Room k (A.deeper (envOfC qual (defScope st) s.heap.objs.size f cdv)) →
      MB (cxOf CX0 P w K mg base N qual (defScope st) f cdv A outer s H E).nox W0 (defBody st) fm) :
    FnOk P w K mg base CX0 (k + 1) f fd ps (spP ⟨K, mg⟩ ps.length (nE (runBody N.length fm))) := by
  refine F.ok S (fun vs H Q E h => spP_len h) fun cdv A outer s H vs Q E hr h => ⟨_, hbody cdv A outer s H E hr, ?_⟩
  have hl := spP_len h
  obtain ⟨ω, s0, args, wd, r, h⟩ := h
  unfold guardN at h
  rw [if_pos (by rw [r.length]; exact hl)] at h
  refine ⟨ω, s0, args.map some ++ List.replicate (N.length - args.length) none, wd, ?_, ?_⟩
  · unfold L2.start
    rw [r.length]
    exact r.rep_append _
  · have h : After ⟨K, mg⟩ E ω H (noErr (runBody N.length fm args s0)) (RV K) Q := h
    unfold runBody at h
    split at h
    · rename_i q; rw [q]
      exact fun ω' H' σ' x w r => h ω' H' .non x w .non
    · rename_i q; rw [q]
      exact fun ω' H' y x w r => h ω' H' y x w r
    · exact False.elim h
    · exact False.elim h
/-- a def of which nothing is known but its places: no promise -/
theorem okP_zero {x qual : Str} {st : Stmt} {f : Addr} {fd : FuncData} {N ps : List Str} (F : Fun K x qual st f fd) (S : FnScope N ps (defScope st)) :
    FnOk P w K mg base CX0 1 f fd ps (spP ⟨K, mg⟩ ps.length (nE fun _ _ => .stuck)) := by
  refine ⟨fun vs H Q E h => spP_len h, fun A outer s H args us vs Q E hr e0 hb r hsp => ?_⟩
  obtain ⟨ω, s0, args, wd, r, h⟩ := hsp
  unfold guardN at h
  split at h <;> exact False.elim h
/-- a def that calls itself: by turns -/
def fuelF (N : Nat) (body : (List PV → Store → Res PV) → SM) : Nat → List PV → Store → Res PV
  | 0 => fun _ _ => .stuck
  | n + 1 => runBody N (body (fuelF N body n))
theorem okP_rec {x qual : Str} {st : Stmt} {f : Addr} {fd : FuncData} {N ps : List Str} {k : Nat} {body : (List PV → Store → Res PV) → SM} (F : Fun K x qual st f fd) (S : FnScope N ps (defScope st)) (hk : 1 ≤ k)
    (hbody : ∀ (n : Nat), FnOk P w K mg base CX0 (k + n) f fd ps (spP ⟨K, mg⟩ ps.length (nE (fuelF N.length body n))) → ∀ (cdv : Value) (A : Around) (outer : List Env) (s : Shared) (H : Hp) (E : XK), Room (k + n) (A.deeper (envOfC qual (defScope st) s.heap.objs.size f cdv)) →
      MB (cxOf CX0 P w K mg base N qual (defScope st) f cdv A outer s H E).nox W0 (defBody st) (body (fuelF N.length body n))) :
    ∀ n, FnOk P w K mg base CX0 (k + n) f fd ps (spP ⟨K, mg⟩ ps.length (nE (fuelF N.length body n)))
  | 0 => (okP_zero F S).mono hk
  | n + 1 => okP F S (hbody n (okP_rec F S hk hbody n))
end
end PL
/-! PL, part d: operators and built-ins, by plain values. -/
namespace PL
open PySem PySem.Spec PyProof.Rows L2
/-! ### plain values as data -/
mutual
def toD : PV → PyData
  | .non => .none
  | .bl b => .bool b
  | .int i => .int i
  | .str x => .str x
  | .tup xs => .tuple (toDs xs)
  | .lst xs => .list (toDs xs)
  | .frz xs => .list (toDs xs)
  | .loc _ => .none
  | .con _ => .none
  | .exc _ _ _ _ => .none
def toDs : List PV → List PyData
  | [] => []
  | x :: xs => toD x :: toDs xs
end
mutual
def isD : PV → Bool
  | .non => true
  | .bl _ => true
  | .int _ => true
  | .str _ => true
  | .tup xs => isDs xs
  | .lst xs => isDs xs
  | .frz xs => isDs xs
  | .loc _ => false
  | .con _ => false
  | .exc _ _ _ _ => false
def isDs : List PV → Bool
  | [] => true
  | x :: xs => isD x && isDs xs
end
theorem toDs_map : ∀ xs : List PV, toDs xs = xs.map toD
  | [] => by simp [toDs]
  | x :: xs => by simp [toDs, toDs_map xs]
theorem isDs_mem : ∀ {xs : List PV}, isDs xs = true → ∀ x ∈ xs, isD x = true
  | [], _, x, m => by cases m
  | y :: xs, h, x, m => by
    simp only [isDs, Bool.and_eq_true] at h
    rcases List.mem_cons.mp m with e | m
    · rw [e]; exact h.1
    · exact isDs_mem h.2 x m
mutual
theorem plain_toD : ∀ v : PV, (toD v).plain = true
  | .non => by simp [toD, PyData.plain]
  | .bl _ => by simp [toD, PyData.plain]
  | .int _ => by simp [toD, PyData.plain]
  | .str _ => by simp [toD, PyData.plain]
  | .tup xs => by simp [toD, PyData.plain, plain_toDs xs]
  | .lst xs => by simp [toD, PyData.plain, plain_toDs xs]
  | .frz xs => by simp [toD, PyData.plain, plain_toDs xs]
  | .loc _ => by simp [toD, PyData.plain]
  | .con _ => by simp [toD, PyData.plain]
  | .exc _ _ _ _ => by simp [toD, PyData.plain]
theorem plain_toDs : ∀ vs : List PV, PyData.plainAll (toDs vs) = true
  | [] => by simp [toDs, PyData.plainAll]
  | x :: xs => by simp [toDs, PyData.plainAll, plain_toD x, plain_toDs xs]
end
section
variable {K : PySem.W.Frag} {ω : Wo} {H : Hp}
mutual
theorem Rep.dp (sub : Same ω.F H) : ∀ {v : PV} {x : V}, Rep K ω v x → isD v = true → Dp K H x (toD v)
  | _, _, .non, _ => by rw [toD]; exact .non
  | _, _, .bl b, _ => by rw [toD]; exact .bl b
  | _, _, .int i, _ => by rw [toD]; exact .int i
  | _, _, .str x, _ => by rw [toD]; exact .str x
  | _, _, .tup e r, d => by rw [toD]; exact .tup (.of (sub _ _ e)) (Reps.dp sub r (by simpa [isD] using d))
  | _, _, .lst e r, d => by rw [toD]; exact .lst (.of (sub _ _ e)) (Reps.dp sub r (by simpa [isD] using d))
  | _, _, .frz e r, d => by rw [toD]; exact .lst (sub.seq e) (Reps.dp sub r (by simpa [isD] using d))
  | _, _, .loc e, d => by simp [isD] at d
  | _, _, .con v, d => by simp [isD] at d
  | _, _, .exc _ _ _, d => by simp [isD] at d
theorem Reps.dp (sub : Same ω.F H) : ∀ {vs : List PV} {xs : List V}, Reps K ω vs xs → isDs vs = true → DpAll K H xs (toDs vs)
  | _, _, .nil, _ => by rw [toDs]; exact .nil
  | _, _, .cons r t, d => by
    rw [toDs]
    simp only [isDs, Bool.and_eq_true] at d
    exact .cons (Rep.dp sub r d.1) (Reps.dp sub t d.2)
end
end
/-- a list or tuple, read: whether a tuple, its items -/
def seqOf (st : Store) : PV → Option (Bool × List PV)
  | .tup xs => some (true, xs)
  | .lst xs => some (false, xs)
  | .frz xs => some (false, xs)
  | .loc l => match st[l]? with
    | some (.lst xs) => some (false, xs)
    | _ => none
  | _ => none
section
variable {K : PySem.W.Frag} {ω : Wo} {H : Hp} {st : Store}
theorem seqOf_rep (wd : Wd K ω st H) {v : PV} {x : V} (r : Rep K ω v x) {t : Bool} {xs : List PV} (e : seqOf st v = some (t, xs)) : ∃ a vs, x = .ref a ∧ Reps K ω xs vs ∧ ((t = true ∧ SqT K H a vs) ∨ (t = false ∧ SqL K H a vs)) := by
  cases r with
  | tup ea rs => cases e; exact ⟨_, _, rfl, rs, .inl ⟨rfl, .of (wd.sub _ _ ea)⟩⟩
  | lst ea rs => cases e; exact ⟨_, _, rfl, rs, .inr ⟨rfl, .of (wd.sub _ _ ea)⟩⟩
  | frz ea rs => cases e; exact ⟨_, _, rfl, rs, .inr ⟨rfl, wd.sub.seq ea⟩⟩
  | @loc a l ea =>
    unfold seqOf at e
    simp only at e
    split at e
    · rename_i ys q
      cases e
      obtain ⟨vs, h, rs⟩ := wd.obj _ _ _ ea q
      exact ⟨_, _, rfl, rs, .inr ⟨rfl, .of h⟩⟩
    · cases e
  | _ => cases e
end
/-! ### from a run to a rule -/
section
variable {X : Cx}
theorem OpS.mk' {f : Value → Value → Sem Value} {p : PV → PV → Store → Res PV}
    (h : ∀ (pins : List (Addr × Obj)) (s : Shared) (σ : L2.St) (H : Hp) (x y : V) (v u : Value) (Q : VK) (E : XK) (ω : Wo) (st : Store) (a b : PV), Inv X pins σ H s → RelV x v → RelV y u → Wd X.K ω st H → Rep X.K ω a x → Rep X.K ω b y →
      After (gd X) E ω H (p a b st) (RV X.K) Q → wpAny (model X.prog X.w) X.A (f v u) (EP X pins σ Q) X.xe s) : OpS X f p :=
  ⟨fun x y H Q => ∃ (E : XK) (ω : Wo) (st : Store) (a b : PV), Wd X.K ω st H ∧ Rep X.K ω a x ∧ Rep X.K ω b y ∧ After (gd X) E ω H (p a b st) (RV X.K) Q,
    fun pins s σ H x y v u Q I rx ry ⟨E, ω, st, a, b, wd, ra, rb, q⟩ => h pins s σ H x y v u Q E ω st a b I rx ry wd ra rb q, fun E ω st H v w x y Q wd r1 r2 q => ⟨E, ω, st, v, w, wd, r1, r2, q⟩⟩
theorem UnS.mk' {f : Value → Sem Value} {p : PV → Store → Res PV}
    (h : ∀ (pins : List (Addr × Obj)) (s : Shared) (σ : L2.St) (H : Hp) (x : V) (v : Value) (Q : VK) (E : XK) (ω : Wo) (st : Store) (a : PV), Inv X pins σ H s → RelV x v → Wd X.K ω st H → Rep X.K ω a x →
      After (gd X) E ω H (p a st) (RV X.K) Q → wpAny (model X.prog X.w) X.A (f v) (EP X pins σ Q) X.xe s) : UnS X f p :=
  ⟨fun x H Q => ∃ (E : XK) (ω : Wo) (st : Store) (a : PV), Wd X.K ω st H ∧ Rep X.K ω a x ∧ After (gd X) E ω H (p a st) (RV X.K) Q,
    fun pins s σ H x v Q I rx ⟨E, ω, st, a, wd, ra, q⟩ => h pins s σ H x v Q E ω st a I rx wd ra q, fun E ω st H v x Q wd r1 q => ⟨E, ω, st, v, wd, r1, q⟩⟩
theorem CallS.mk' {f : Value} {p : List PV → Store → Res PV}
    (h : ∀ (pins : List (Addr × Obj)) (s : Shared) (σ : L2.St) (H : Hp) (xs : List V) (us : List Value) (Q : VK) (E : XK) (ω : Wo) (st : Store) (as : List PV), Inv X pins σ H s → Vals xs us → Wd X.K ω st H → Reps X.K ω as xs →
      After (gd X) E ω H (p as st) (RV X.K) Q → wpAny (model X.prog X.w) X.A (call f us) (EP X pins σ Q) X.xe s) : CallS X f p :=
  ⟨fun xs H Q => ∃ (E : XK) (ω : Wo) (st : Store) (as : List PV), Wd X.K ω st H ∧ Reps X.K ω as xs ∧ After (gd X) E ω H (p as st) (RV X.K) Q,
    fun pins s σ H xs us Q I rx ⟨E, ω, st, as, wd, ra, q⟩ => h pins s σ H xs us Q E ω st as I rx wd ra q, fun E ω st H vs xs Q wd r1 q => ⟨E, ω, st, vs, wd, r1, q⟩⟩
end
/-! ### arithmetic -/
def pAdd : PV → PV → Store → Res PV
  | .int i, .int j, st => .ok (.int (i + j)) st
  | .str a, .str b, st => if a.length + b.length ≤ sizeLine then .ok (.str (a ++ b)) st else .stuck
  | .tup xs, .tup ys, st => if xs.length + ys.length ≤ sizeLine then .ok (.tup (xs ++ ys)) st else .stuck
  | .lst xs, .lst ys, st => if xs.length + ys.length ≤ sizeLine then .ok (.lst (xs ++ ys)) st else .stuck
  | .loc l, .lst ys, st => match st[l]? with
    | some (.lst xs) => if xs.length + ys.length ≤ sizeLine then .ok (.lst (xs ++ ys)) st else .stuck
    | _ => .stuck
  | _, _, _ => .stuck
def pSub : PV → PV → Store → Res PV
  | .int i, .int j, st => .ok (.int (i - j)) st
  | _, _, _ => .stuck
def pMul : PV → PV → Store → Res PV
  | .int i, .int j, st => if (i.natAbs < 2 ^ 64 ∨ j.natAbs < 2 ^ 64) ∨ i.natAbs.log2 + j.natAbs.log2 < 1000000 then .ok (.int (i * j)) st else .stuck
  | .tup xs, .int k, st => if xs ≠ [] ∧ 2 ≤ k ∧ k ≤ 1000 ∧ xs.length ≤ 1000 then .ok (.tup (List.replicate k.toNat xs).flatten) st else .stuck
  | _, _, _ => .stuck
def pFdiv : PV → PV → Store → Res PV
  | .int i, .int j, st => if 0 < j ∧ j.natAbs.log2 < 9000 then .ok (.int (i / j)) st else .stuck
  | _, _, _ => .stuck
def pMod : PV → PV → Store → Res PV
  | .int i, .int j, st => if 0 < j then .ok (.int (i % j)) st else .stuck
  | _, _, _ => .stuck
def pPow : PV → PV → Store → Res PV
  | .int i, .int j, st => if 0 ≤ j ∧ j ≤ 1000000 ∧ i.natAbs < 2 ^ 64 then .ok (.int (i ^ j.toNat)) st else .stuck
  | _, _, _ => .stuck
def pNeg : PV → Store → Res PV
  | .int i, st => .ok (.int (-i)) st
  | _, _ => .stuck
section
variable {X : Cx}
theorem os_add : OpS X (binaryOp .Add) pAdd := .mk' fun pins s σ H x y v u Q E ω st a b I rx ry wd ra rb h => by
  unfold pAdd at h
  split at h
  · cases ra; cases rb
    exact op_add pins s σ H _ _ v u Q I rx ry ⟨_, _, rfl, rfl, h.ok_here wd (.int _)⟩
  · split at h
    · rename_i hz
      cases ra; cases rb
      exact op_add_str pins s σ H _ _ v u Q I rx ry ⟨_, _, rfl, rfl, hz, h.ok_here wd (.str _)⟩
    · exact False.elim h
  · split at h
    · rename_i xs ys _ hz
      cases ra with
      | tup ea r1 =>
        cases rb with
        | tup eb r2 =>
          refine op_catA pins s σ H _ _ v u Q I rx ry ⟨_, _, _, _, rfl, rfl, .of (wd.sub _ _ ea), .of (wd.sub _ _ eb), by rw [← r1.length, ← r2.length]; exact hz, fun e => ?_, fun n e => ?_, fun n1 n2 p hp => ?_⟩
          · subst e
            cases r1
            exact h.ok_here wd (.tup eb r2)
          · subst e
            cases r2
            rw [List.append_nil] at h
            exact h.ok_here wd (.tup ea r1)
          · exact new_tup wd (r1.append r2) h p hp
    · exact False.elim h
  · split at h
    · rename_i xs ys _ hz
      cases ra with
      | lst ea r1 =>
        cases rb with
        | lst eb r2 =>
          exact op_cat pins s σ H _ _ v u Q I rx ry ⟨_, _, _, _, rfl, rfl, wd.sub _ _ ea, wd.sub _ _ eb, by rw [← r1.length, ← r2.length]; exact hz, new_lst wd (r1.append r2) h⟩
    · exact False.elim h
  · split at h
    · rename_i q
      split at h
      · rename_i hz
        cases ra with
        | loc ea =>
          cases rb with
          | lst eb r2 =>
            obtain ⟨ws, e, r1⟩ := wd.obj _ _ _ ea q
            exact op_cat pins s σ H _ _ v u Q I rx ry ⟨_, _, _, _, rfl, rfl, e, wd.sub _ _ eb, by rw [← r1.length, ← r2.length]; exact hz, new_lst wd (r1.append r2) h⟩
      · exact False.elim h
    · exact False.elim h
  · exact False.elim h
theorem os_sub : OpS X (binaryOp .Sub) pSub := .mk' fun pins s σ H x y v u Q E ω st a b I rx ry wd ra rb h => by
  unfold pSub at h
  split at h
  · cases ra; cases rb
    exact op_sub pins s σ H _ _ v u Q I rx ry ⟨_, _, rfl, rfl, h.ok_here wd (.int _)⟩
  · exact False.elim h
theorem os_mul : OpS X (binaryOp .Mult) pMul := .mk' fun pins s σ H x y v u Q E ω st a b I rx ry wd ra rb h => by
  unfold pMul at h
  split at h
  · split at h
    · rename_i hz
      cases ra; cases rb
      rcases hz with hz | hz
      · refine op_mul pins s σ H _ _ v u Q I rx ry ⟨_, _, rfl, rfl, ?_, h.ok_here wd (.int _)⟩
        unfold CMul
        omega
      · exact op_mulW pins s σ H _ _ v u Q I rx ry ⟨_, _, rfl, rfl, hz, h.ok_here wd (.int _)⟩
    · exact False.elim h
  · split at h
    · rename_i hz
      obtain ⟨h1, h2, h3, h4⟩ := hz
      cases ra with
      | tup ea r1 =>
        cases rb
        refine op_repT pins s σ H _ _ v u Q I rx ry ⟨_, _, _, rfl, rfl, .of (wd.sub _ _ ea), ?_, h2, h3, by rw [← r1.length]; exact h4, new_tup wd (r1.replicate _) h⟩
        intro e; subst e; cases r1; exact h1 rfl
    · exact False.elim h
  · exact False.elim h
theorem os_fdiv : OpS X (binaryOp .FloorDiv) pFdiv := .mk' fun pins s σ H x y v u Q E ω st a b I rx ry wd ra rb h => by
  unfold pFdiv at h
  split at h
  · split at h
    · rename_i hz
      cases ra; cases rb
      exact op_fdivW pins s σ H _ _ v u Q I rx ry ⟨_, _, rfl, rfl, hz, h.ok_here wd (.int _)⟩
    · exact False.elim h
  · exact False.elim h
theorem os_mod : OpS X (binaryOp .Mod) pMod := .mk' fun pins s σ H x y v u Q E ω st a b I rx ry wd ra rb h => by
  unfold pMod at h
  split at h
  · split at h
    · rename_i hz
      cases ra; cases rb
      exact op_mod pins s σ H _ _ v u Q I rx ry ⟨_, _, rfl, rfl, hz, h.ok_here wd (.int _)⟩
    · exact False.elim h
  · exact False.elim h
theorem os_pow : OpS X (binaryOp .Pow) pPow := .mk' fun pins s σ H x y v u Q E ω st a b I rx ry wd ra rb h => by
  unfold pPow at h
  split at h
  · split at h
    · rename_i hz
      cases ra; cases rb
      exact op_pow pins s σ H _ _ v u Q I rx ry ⟨_, _, rfl, rfl, hz, h.ok_here wd (.int _)⟩
    · exact False.elim h
  · exact False.elim h
theorem us_neg : UnS X (unaryOp .USub) pNeg := .mk' fun pins s σ H x v Q E ω st a I rx wd ra h => by
  unfold pNeg at h
  split at h
  · cases ra
    exact un_neg pins s σ H _ v Q I rx ⟨_, rfl, h.ok_here wd (.int _)⟩
  · exact False.elim h
end
/-! ### comparisons -/
def pEq (v w : PV) (st : Store) : Res PV := if isD v = true ∧ isD w = true ∧ min (toD v).depth (toD w).depth ≤ 64 then .ok (.bl (PyData.eqv (toD v) (toD w))) st else .stuck
def pNe (v w : PV) (st : Store) : Res PV := if isD v = true ∧ isD w = true ∧ min (toD v).depth (toD w).depth ≤ 64 then .ok (.bl (!PyData.eqv (toD v) (toD w))) st else .stuck
def isNn : PV → Bool
  | .non => true
  | _ => false
def OrdOk (v w : PV) : Prop := isD v = true ∧ isD w = true ∧ PySem.W.alike (toD v) (toD w) = true ∧ isNn v = false ∧ min (toD v).depth (toD w).depth ≤ 64
instance (v w : PV) : Decidable (OrdOk v w) := by unfold OrdOk; infer_instance
def pLt (v w : PV) (st : Store) : Res PV := if OrdOk v w then .ok (.bl (PySem.W.dataLt (toD v) (toD w))) st else .stuck
def pGt (v w : PV) (st : Store) : Res PV := if OrdOk v w then .ok (.bl (PySem.W.dataLt (toD w) (toD v))) st else .stuck
def pLe (v w : PV) (st : Store) : Res PV := if OrdOk v w then .ok (.bl (!PySem.W.dataLt (toD w) (toD v))) st else .stuck
def pGe (v w : PV) (st : Store) : Res PV := if OrdOk v w then .ok (.bl (!PySem.W.dataLt (toD v) (toD w))) st else .stuck
def inD (v : PV) (xs : List PV) : Bool := xs.any fun y => PyData.eqv (toD y) (toD v)
def inStr (a z : Str) : Bool := match a.cps.toList with
  | [c] => decide (c ∈ z.cps.toList)
  | _ => !(Builtin.Str.occurrences z a 0 z.length 1).isEmpty
def pIn (v w : PV) (st : Store) : Res PV := match v, w with
  | .str a, .str z => .ok (.bl (inStr a z)) st
  | _, _ => match seqOf st w with
    | some (_, xs) => if isD v = true ∧ isDs xs = true ∧ min (PyData.depthAll (toDs xs)) (toD v).depth ≤ 60 then .ok (.bl (inD v xs)) st else .stuck
    | none => .stuck
def pNotIn (v w : PV) (st : Store) : Res PV := match v, w with
  | .str a, .str z => .ok (.bl (!inStr a z)) st
  | _, _ => match seqOf st w with
    | some (_, xs) => if isD v = true ∧ isDs xs = true ∧ min (PyData.depthAll (toDs xs)) (toD v).depth ≤ 60 then .ok (.bl (!inD v xs)) st else .stuck
    | none => .stuck
def isNonP : PV → Option Bool
  | .non => some true
  | .con _ => none
  | _ => some false
def pIs (v w : PV) (st : Store) : Res PV := match w, isNonP v with
  | .non, some b => .ok (.bl b) st
  | _, _ => .stuck
def pIsNot (v w : PV) (st : Store) : Res PV := match w, isNonP v with
  | .non, some b => .ok (.bl (!b)) st
  | _, _ => .stuck
section
variable {X : Cx}
theorem Rep.reads {pins : List (Addr × Obj)} {s : Shared} {σ : L2.St} {H : Hp} {ω : Wo} {st : Store} {v : PV} {x : V} {u : Value} (I : Inv X pins σ H s) (wd : Wd X.K ω st H) (r : Rep X.K ω v x) (d : isD v = true) (rx : RelV x u) : ∃ as, Reads s.heap u (toD v) as :=
  Dp.reads I _ _ _ (r.dp wd.sub d) rx
theorem os_eq (hu : X.A.units + 64 < cLine) : OpS X (compareOp .Eq) pEq := .mk' fun pins s σ H x y v u Q E ω st a b I rx ry wd ra rb h => by
  unfold pEq at h
  split at h
  · rename_i hz
    obtain ⟨da, db, hd⟩ := hz
    obtain ⟨as, r1⟩ := ra.reads I wd da rx
    obtain ⟨bs, r2⟩ := rb.reads I wd db ry
    exact PySem.SeqAt.eq_plain r1 r2 (plain_toD _) (plain_toD _) (by omega) ⟨.bl _, H, I, rfl, h.ok_here wd (.bl _)⟩
  · exact False.elim h
theorem os_ne (hu : X.A.units + 64 < cLine) : OpS X (compareOp .NotEq) pNe := .mk' fun pins s σ H x y v u Q E ω st a b I rx ry wd ra rb h => by
  unfold pNe at h
  split at h
  · rename_i hz
    obtain ⟨da, db, hd⟩ := hz
    obtain ⟨as, r1⟩ := ra.reads I wd da rx
    obtain ⟨bs, r2⟩ := rb.reads I wd db ry
    exact PySem.SeqAt.ne_plain r1 r2 (plain_toD _) (plain_toD _) (by omega) ⟨.bl _, H, I, rfl, h.ok_here wd (.bl _)⟩
  · exact False.elim h
theorem toD_ne_none {v : PV} (d : isD v = true) (n : isNn v = false) : toD v ≠ .none := by
  cases v <;> first | (simp [isNn] at n; done) | (simp [isD] at d; done) | (rw [toD]; intro z; cases z)
theorem os_lt (hu : X.A.units + 64 < cLine) : OpS X (compareOp .Lt) pLt := .mk' fun pins s σ H x y v u Q E ω st a b I rx ry wd ra rb h => by
  unfold pLt at h
  split at h
  · rename_i hz
    obtain ⟨da, db, al, nn, hd⟩ := hz
    obtain ⟨as, r1⟩ := ra.reads I wd da rx
    obtain ⟨bs, r2⟩ := rb.reads I wd db ry
    exact PySem.W.lt_data r1 r2 al (toD_ne_none da nn) (by omega) ⟨.bl _, H, I, rfl, h.ok_here wd (.bl _)⟩
  · exact False.elim h
theorem os_gt (hu : X.A.units + 64 < cLine) : OpS X (compareOp .Gt) pGt := .mk' fun pins s σ H x y v u Q E ω st a b I rx ry wd ra rb h => by
  unfold pGt at h
  split at h
  · rename_i hz
    obtain ⟨da, db, al, nn, hd⟩ := hz
    obtain ⟨as, r1⟩ := ra.reads I wd da rx
    obtain ⟨bs, r2⟩ := rb.reads I wd db ry
    exact PySem.W.gt_data r1 r2 al (toD_ne_none da nn) (by omega) ⟨.bl _, H, I, rfl, h.ok_here wd (.bl _)⟩
  · exact False.elim h
theorem os_le (hu : X.A.units + 64 < cLine) : OpS X (compareOp .LtE) pLe := .mk' fun pins s σ H x y v u Q E ω st a b I rx ry wd ra rb h => by
  unfold pLe at h
  split at h
  · rename_i hz
    obtain ⟨da, db, al, nn, hd⟩ := hz
    obtain ⟨as, r1⟩ := ra.reads I wd da rx
    obtain ⟨bs, r2⟩ := rb.reads I wd db ry
    exact PySem.W.le_data r1 r2 al (toD_ne_none da nn) (by omega) ⟨.bl _, H, I, rfl, h.ok_here wd (.bl _)⟩
  · exact False.elim h
theorem os_ge (hu : X.A.units + 64 < cLine) : OpS X (compareOp .GtE) pGe := .mk' fun pins s σ H x y v u Q E ω st a b I rx ry wd ra rb h => by
  unfold pGe at h
  split at h
  · rename_i hz
    obtain ⟨da, db, al, nn, hd⟩ := hz
    obtain ⟨as, r1⟩ := ra.reads I wd da rx
    obtain ⟨bs, r2⟩ := rb.reads I wd db ry
    exact PySem.W.ge_data r1 r2 al (toD_ne_none da nn) (by omega) ⟨.bl _, H, I, rfl, h.ok_here wd (.bl _)⟩
  · exact False.elim h
theorem inStr_one {a : Str} {c : Nat} (e : a.cps.toList = [c]) : a = ⟨#[c]⟩ := by
  cases a with
  | mk cps =>
    have e : cps.toList = [c] := e
    have : cps = #[c] := by rw [← Array.toArray_toList (xs := cps), e]
    rw [this]
theorem os_in (hu : X.A.units + 64 < cLine) : OpS X (compareOp .In) pIn := .mk' fun pins s σ H x y v u Q E ω st a b I rx ry wd ra rb h => by
  unfold pIn at h
  split at h
  · cases ra; cases rb
    unfold inStr at h
    split at h
    · rename_i c e
      have e := inStr_one e
      subst e
      exact op_in_sign pins s σ H _ _ v u Q I rx ry ⟨_, _, rfl, rfl, h.ok_here wd (.bl _)⟩
    · exact op_in_str pins s σ H _ _ v u Q I rx ry ⟨_, _, rfl, rfl, h.ok_here wd (.bl _)⟩
  · split at h
    · rename_i t xs q
      split at h
      · rename_i hz
        obtain ⟨da, db, hd⟩ := hz
        obtain ⟨as, r1⟩ := ra.reads I wd da rx
        obtain ⟨p, ws, e, rs, ht⟩ := seqOf_rep wd rb q
        subst e
        have hin : Q (.bl ((toDs xs).any fun y => PyData.eqv y (toD a))) H := by
          rw [toDs_map, List.any_map]
          exact h.ok_here wd (.bl _)
        rcases ht with ⟨_, hq⟩ | ⟨_, hq⟩
        · obtain ⟨bs, r2⟩ := Dp.reads I _ _ _ (Dp.tup hq (rs.dp wd.sub db)) ry
          exact PySem.SeqAt.in_tuple_data r2 r1 (plain_toDs _) (plain_toD _) (by omega) ⟨.bl _, H, I, rfl, hin⟩
        · obtain ⟨bs, r2⟩ := Dp.reads I _ _ _ (Dp.lst hq (rs.dp wd.sub db)) ry
          exact PySem.SeqAt.in_list_data r2 r1 (plain_toDs _) (plain_toD _) (by omega) ⟨.bl _, H, I, rfl, hin⟩
      · exact False.elim h
    · exact False.elim h
theorem os_notIn (hu : X.A.units + 64 < cLine) : OpS X (compareOp .NotIn) pNotIn := .mk' fun pins s σ H x y v u Q E ω st a b I rx ry wd ra rb h => by
  unfold pNotIn at h
  split at h
  · cases ra; cases rb
    unfold inStr at h
    split at h
    · rename_i c e
      have e := inStr_one e
      subst e
      exact op_notIn_sign pins s σ H _ _ v u Q I rx ry ⟨_, _, rfl, rfl, h.ok_here wd (.bl _)⟩
    · exact op_notin_str pins s σ H _ _ v u Q I rx ry ⟨_, _, rfl, rfl, h.ok_here wd (.bl _)⟩
  · split at h
    · rename_i t xs q
      split at h
      · rename_i hz
        obtain ⟨da, db, hd⟩ := hz
        obtain ⟨as, r1⟩ := ra.reads I wd da rx
        obtain ⟨p, ws, e, rs, ht⟩ := seqOf_rep wd rb q
        subst e
        have hin : Q (.bl (!(toDs xs).any fun y => PyData.eqv y (toD a))) H := by
          rw [toDs_map, List.any_map]
          exact h.ok_here wd (.bl _)
        rcases ht with ⟨_, hq⟩ | ⟨_, hq⟩
        · obtain ⟨bs, r2⟩ := Dp.reads I _ _ _ (Dp.tup hq (rs.dp wd.sub db)) ry
          exact PySem.SeqAt.notIn_tuple_data r2 r1 (plain_toDs _) (plain_toD _) (by omega) ⟨.bl _, H, I, rfl, hin⟩
        · obtain ⟨bs, r2⟩ := Dp.reads I _ _ _ (Dp.lst hq (rs.dp wd.sub db)) ry
          exact PySem.SeqAt.notIn_list_data r2 r1 (plain_toDs _) (plain_toD _) (by omega) ⟨.bl _, H, I, rfl, hin⟩
      · exact False.elim h
    · exact False.elim h
theorem isNon_rep {K : PySem.W.Frag} {ω : Wo} {v : PV} {x : V} {b : Bool} (r : Rep K ω v x) (e : isNonP v = some b) : decide (x = .non) = b := by
  cases r <;> first | (cases e; simp) | (cases e)
theorem os_is : OpS X (compareOp .Is) pIs := .mk' fun pins s σ H x y v u Q E ω st a b I rx ry wd ra rb h => by
  unfold pIs at h
  split at h
  · rename_i k e
    cases rb
    refine op_isN pins s σ H _ _ v u Q I rx ry ⟨rfl, ?_⟩
    rw [isNon_rep ra e]
    exact h.ok_here wd (.bl _)
  · exact False.elim h
theorem os_isNot : OpS X (compareOp .IsNot) pIsNot := .mk' fun pins s σ H x y v u Q E ω st a b I rx ry wd ra rb h => by
  unfold pIsNot at h
  split at h
  · rename_i k e
    cases rb
    refine op_notN pins s σ H _ _ v u Q I rx ry ⟨rfl, ?_⟩
    rw [isNon_rep ra e]
    exact h.ok_here wd (.bl _)
  · exact False.elim h
end
/-! ### items, slices, stores -/
def pIx (v w : PV) (st : Store) : Res PV := match w with
  | .int i => match v with
    | .str z => match (if z.length ≤ sizeLine then atI z.cps.toList i else none) with
      | some c => .ok (.str ⟨#[c]⟩) st
      | none => .stuck
    | _ => match seqOf st v with
      | some (_, xs) => match atI xs i with
        | some y => .ok y st
        | none => .stuck
      | none => .stuck
  | _ => .stuck
def cutP (xs : List PV) (lo hi : Option Int) : List PV := (xs.drop (HT.sIx xs.length 0 lo)).take (HT.sIx xs.length xs.length hi - HT.sIx xs.length 0 lo)
def pSl (v : PV) (lo hi : Option Int) (st : Store) : Res PV := match v with
  | .str z => if z.length ≤ sizeLine then .ok (.str (cutS z lo hi)) st else .stuck
  | _ => match seqOf st v with
    | some (true, xs) => .ok (.tup (cutP xs lo hi)) st
    | some (false, xs) => .ok (.lst (cutP xs lo hi)) st
    | none => .stuck
def pSet (o i v : PV) (st : Store) : Res Unit := match o, i with
  | .loc l, .int k => match st[l]? with
    | some (.lst xs) => match ixN xs.length k with
      | some j => .ok () (st.set l (.lst (xs.set j v)))
      | none => .stuck
    | _ => .stuck
  | _, _ => .stuck
section
variable {X : Cx}
theorem is_ix : IxS X pIx := by
  refine ⟨_, ix_seq, fun E ω st H v w x y Q wd rv rw' h => ?_⟩
  unfold pIx at h
  split at h
  · rename_i i
    cases rw'
    split at h
    · rename_i z
      cases rv
      split at h
      · rename_i c e
        split at e
        · rename_i hz
          exact .inr (.inr ⟨z, i, c, rfl, rfl, hz, e, h.ok_here wd (.str _)⟩)
        · cases e
      · exact False.elim h
    · split at h
      · rename_i t xs q
        split at h
        · rename_i y e
          obtain ⟨p, ws, ep, rs, ht⟩ := seqOf_rep wd rv q
          subst ep
          unfold atI at e
          rw [Option.bind_eq_some_iff] at e
          obtain ⟨j, e1, e2⟩ := e
          obtain ⟨u, e3, ru⟩ := rs.get e2
          have e4 : atI ws i = some u := by
            unfold atI
            rw [← rs.length, e1]
            exact e3
          rcases ht with ⟨_, hq⟩ | ⟨_, hq⟩
          · exact .inr (.inl ⟨p, ws, i, u, rfl, rfl, hq, e4, h.ok_here wd ru⟩)
          · exact .inl ⟨p, ws, i, u, rfl, rfl, hq, e4, h.ok_here wd ru⟩
        · exact False.elim h
      · exact False.elim h
  · exact False.elim h
theorem cutP_rep {K : PySem.W.Frag} {ω : Wo} {xs : List PV} {ws : List V} (r : Reps K ω xs ws) (lo hi : Option Int) : Reps K ω (cutP xs lo hi) (cutV ws lo hi) := by
  unfold cutP cutV
  rw [← r.length]
  exact (r.drop _).take _
theorem ss_sl : SlS X pSl := by
  refine ⟨_, SlR.or sl_str (SlR.or sl_list sl_tupA), fun E ω st H v x lo hi Q wd rv h => ?_⟩
  unfold pSl at h
  split at h
  · split at h
    · rename_i hz
      cases rv
      exact .inl ⟨_, rfl, hz, h.ok_here wd (.str _)⟩
    · exact False.elim h
  · split at h
    · rename_i xs q
      obtain ⟨p, ws, ep, rs, ht⟩ := seqOf_rep wd rv q
      subst ep
      rcases ht with ⟨_, hq⟩ | ⟨e, _⟩
      · refine .inr (.inr ⟨p, ws, rfl, hq, fun hw => ?_, fun _ => new_tup wd (cutP_rep rs lo hi) h⟩)
        -- the whole: the tuple itself
        have hc : cutP xs lo hi = xs := by
          unfold cutP
          rw [rs.length, hw.1, hw.2, List.drop_zero, Nat.sub_zero, ← rs.length, List.take_length]
        rw [hc] at h
        cases rv with
        | tup ea r1 =>
          cases q
          exact h.ok_here wd (.tup ea r1)
        | loc ea =>
          unfold seqOf at q
          simp only at q
          split at q <;> cases q
        | _ => cases q
      · cases e
    · rename_i xs q
      obtain ⟨p, ws, ep, rs, ht⟩ := seqOf_rep wd rv q
      subst ep
      rcases ht with ⟨e, _⟩ | ⟨_, hq⟩
      · cases e
      · exact .inr (.inl ⟨p, ws, rfl, hq, new_lst wd (cutP_rep rs lo hi) h⟩)
    · exact False.elim h
end
end PL
/-! PL, part e: what is walked: lists, tuples, texts, ranges, enumerate. -/
namespace PySem
open Sem (wp)
set_option maxHeartbeats 1000000 in
theorem meets_enumerate_newB1 {v : Value} {o : Obj} {H : Heap → Prop} (B : Begins v o H) :
    Meets (Builtin.«enumerate.__new__» ⟨[.type "enumerate", v], []⟩) (fun _ R s => H s.heap ∧
      R (.ok (.ret (.ref (s.heap.push o).objs.size))) { s with heap := (s.heap.push o).push { cls := .type "enumerate", data := .fields #[.none, .bool false, .ref s.heap.objs.size, rawInt 0, .none, .none] } }) :=
  .of_wp fun prog w A R s h => by
    obtain ⟨hp, g, d, tk, os⟩ := s; obtain ⟨h1, h⟩ := h
    have hsub := sub_enumerate
    have q1 : ∀ {A' : Around} {E : Value → Shared → Prop} {Q : Value → Shared → Prop}, Q (.ref hp.objs.size) ⟨hp.push o, g, d, tk, os⟩ → wpAny (model prog w) A' (pyIter v) Q E ⟨hp, g, d, tk, os⟩ :=
      fun q => B.iter prog w _ _ ⟨hp, g, d, tk, os⟩ _ h1 q
    wp_walk using q1
    refine wpAny_stack_any fun st => wpAny_pure ?_
    split
    · rename_i c _ _ _ _ _
      cases (c == Value.type "enumerate")
      · wp_walk using q1
        exact ⟨_, rfl, h⟩
      · wp_walk using q1
        exact ⟨_, rfl, h⟩
    · wp_walk using q1
      exact ⟨_, rfl, h⟩
theorem call_enumerate_begins {prog : Program} {w : World} {A : Around} {E : Value → Shared → Prop} {s : Shared} {v : Value} {o : Obj} {H : Heap → Prop} {Q : Value → Shared → Prop} (B : Begins v o H) (h1 : H s.heap)
    (h : ∀ h', IsEnum h' (s.heap.objs.size + 1) s.heap.objs.size 0 .none → h'.get? s.heap.objs.size = some o → h'.objs.size = s.heap.objs.size + 2 →
      (∀ b o, s.heap.get? b = some o → h'.get? b = some o) → Q (.ref (s.heap.objs.size + 1)) { s with heap := h' }) :
    wpAny (model prog w) A (call (.type "enumerate") [v]) Q E s := by
  refine callType_new F.called_enumerate (by decide) (F.typeCall_enumerate_1 _) (F.newCall_enumerate_1 _) (fun obj => F.args_object_init_2 obj _) F.entry_enumerate_new
    (meets_enumerate_newB1 B) ⟨h1, ?_⟩
  have hz : (s.heap.push o).objs.size = s.heap.objs.size + 1 := Heap.size_push ..
  show _ ∧ _
  rw [hz]
  have he : IsEnum ((s.heap.push o).push { cls := .type "enumerate", data := .fields #[.none, .bool false, .ref s.heap.objs.size, rawInt 0, .none, .none] }) (s.heap.objs.size + 1) s.heap.objs.size 0 .none := by
    have := Heap.get?_push_size (s.heap.push o) (o := { cls := .type "enumerate", data := .fields #[.none, .bool false, .ref s.heap.objs.size, rawInt 0, .none, .none] }) rfl
    rw [hz] at this; exact this
  refine ⟨⟨_, he, rfl⟩, h _ he (Heap.get?_push_of_some _ (Heap.get?_push_size _ B.free)) (by rw [Heap.size_push, hz]) fun b o x => Heap.get?_push_of_some _ (Heap.get?_push_of_some _ x)⟩
end PySem
namespace PL
open PySem PySem.Spec PyProof.Rows L2
/-! ### enumerate(tuple) -/
def IteT (K : PySem.W.Frag) (a : Addr) : It :=
  ⟨fun i H => ∃ (xs : List V) (x : V), SqT K H a xs ∧ xs[i]? = some x, fun i H v H' => ∃ T x, v = .ref T ∧ H T = none ∧ H' = upd H T (.tup [.int (i : Nat), x]) ∧ ∀ xs, SqT K H a xs → xs[i]? = some x, fun i H => ∃ xs : List V, SqT K H a xs ∧ xs.length = i⟩
theorem turn_enumT {P : Program} {w : World} {K : PySem.W.Frag} {elts : List Expr} {kk : Nat} {tpos : Pos} (a e it : Addr) (hai : a ≠ it) (hea : e ≠ a) :
    Turn P w K (.Tuple elts kk tpos) (IteT K a) [e, it] e (fun i h => (∃ old, IsEnum h e it ((i : Nat) : Int) old) ∧ h.IsTupleIter it a i ∧ e ≠ it) where
  mem := by simp
  obj := fun i h st b hb => by
    obtain ⟨⟨old, he⟩, ⟨o, ho, hc, hd⟩, _⟩ := st
    have e' : b = e ∨ b = it := by simpa using hb
    rcases e' with z | z
    · rw [z]; exact ⟨_, he, fun v q => nomatch q⟩
    · rw [z]; exact ⟨o, ho, fun v q => by rw [hd] at q; cases q⟩
  keep := fun i h h' st k => let ⟨⟨old, he⟩, hi, hne⟩ := st; ⟨⟨old, k e (by simp) _ he⟩, hi.at fun o q => k it (by simp) o q, hne⟩
  item := by
    intro X hP hw hK hc i pins s σ H E I hf st hg
    subst hP hw hK
    obtain ⟨⟨old, he⟩, hit, hne⟩ := st
    obtain ⟨xs, x, hq, hx⟩ := hg
    obtain ⟨its, rv, p, hz⟩ := I.tuple hq
    obtain ⟨u, hu, ru⟩ := rv.get hx
    have hel : e < s.heap.objs.size := Heap.lt_size he
    have hil : it < s.heap.objs.size := by obtain ⟨_, q, _⟩ := hit; exact Heap.lt_size q
    have D := PySem.Draws.tuple (prog := X.prog) (w := X.w) (A := X.A.in1) (I.ok.hd hc) it a hai its.toArray
    have hlt : i < its.toArray.size := by
      rw [List.size_toArray]
      rcases Nat.lt_or_ge i its.length with z | z
      · exact z
      · rw [List.getElem?_eq_none z] at hu; cases hu
    refine wpAny_pyNext_enum_itemC D he ⟨hit, show s.heap.IsTuple a its.toArray from p⟩ hlt hne (by simp; exact ⟨hne, hea⟩) fun x' h' tk hP ho hS hT hsz hk => ?_
    have hx' : x' = u := by
      have hP : its.toArray[i]? = some x' := hP
      rw [List.getElem?_toArray, hu] at hP
      exact (Option.some.inj hP).symm
    subst hx'
    refine ⟨_, rfl, wpAny_letOwnedTupleGo_enum (s := { s with heap := h', toks := tk + 1 }) ho fun h'' he' sb => ?_⟩
    have hT2 : h''.get? s.heap.objs.size = some { cls := .type "tuple", data := .seq #[.int i tk, x'] } := (sb.2 _ (Nat.ne_of_gt hel)).trans hT
    have new : ObjOk X.prog X.w (upd H s.heap.objs.size (.tup [.int (i : Nat), x])) h'' s.heap.objs.size (.tup [.int (i : Nat), x]) :=
      ⟨by show 2 ≤ sizeLine; decide, [.int i tk, x'], .cons ⟨_, rfl⟩ (.cons ru .nil), ⟨_, hT2, rfl, _, rfl⟩⟩
    have I1 : Inv X pins σ (upd H s.heap.objs.size (.tup [.int (i : Nat), x])) { s with heap := h'', toks := tk + 1 } :=
      I.turnedNew (ch := [e, it]) (fun b ob hb q => (sb.2 b (fun z => hb (by simp [z]))).trans (hk b ob (fun z => hb (by simp [z])) (fun z => hb (by simp [z])) q)) hf (Nat.le_refl _) new
    refine ⟨.ref s.heap.objs.size, _, I1, rfl, ⟨_, x, rfl, I.hok.fresh (Nat.le_refl _), rfl, fun ys hy => by rw [I.tuple_inj hy hq]; exact hx⟩, ⟨⟨x', ?_⟩, hS.1.at fun o q => (sb.2 it (Ne.symm hne)).trans q, hne⟩, fun b hb => ?_⟩
    · have e1 : ((i + 1 : Nat) : Int) = (i : Int) + 1 := by omega
      rw [e1]; exact he'
    · have hb' : b < s.heap.objs.size := by
        have e' : b = e ∨ b = it := by simpa using hb
        rcases e' with z | z
        · rw [z]; exact hel
        · rw [z]; exact hil
      rw [upd_ne (Nat.ne_of_lt hb')]
      exact (hf b hb).1
  done := by
    intro X hP hw hK hc i pins s σ H E I hf st hg
    subst hP hw hK
    obtain ⟨⟨old, he⟩, hit, hne⟩ := st
    obtain ⟨xs, hq, hx⟩ := hg
    obtain ⟨its, rv, p, hz⟩ := I.tuple hq
    obtain ⟨f0, f1, f2, f3, f4, f5⟩ := hf it (by simp)
    have hl := rv.length
    have D := PySem.Draws.tuple (prog := X.prog) (w := X.w) (A := X.A.in1) (I.ok.hd hc) it a hai its.toArray
    have hi : its.toArray.size = i := by rw [List.size_toArray, ← hl]; exact hx
    refine wpAny_pyNext_enum_endD D he ?_ fun h' eb => ⟨rfl, I.turned (t' := s.toks) (fun b o hb q => eb b o hb q) f0 f1 f3 f4 f5⟩
    rw [hi]
    exact ⟨hit, show s.heap.IsTuple a its.toArray from p⟩
  self := fun A i s Q E st h => let ⟨⟨_, he⟩, _⟩ := st; wpAny_pyIter_enum he h
/-! ### the walks, by plain values -/
structure ItR0 (K : PySem.W.Frag) (ω : Wo) (xs : List PV) (J : It) : Prop where
  goes : ∀ i H, i < xs.length → Same ω.F H → J.go i H
  stops : ∀ H, Same ω.F H → J.stop xs.length H
  yields : ∀ i ω1 st H x H', i < xs.length → ω.Le ω1 → Wd K ω1 st H → J.yld i H x H' → ∃ ω2 v, Ext ω1 H ω2 H' ∧ Wd K ω2 st H' ∧ xs[i]? = some v ∧ Rep K ω2 v x
theorem ItR.of0 {K : PySem.W.Frag} {ω : Wo} {xs : List PV} {J : It} (h : ItR0 K ω xs J) : ItR K ω ⟨xs, none⟩ J :=
  ⟨fun i ω1 st H hi le wd _ => h.goes i H hi (le.fz.trans wd.sub), fun ω1 st H le wd _ => h.stops H (le.fz.trans wd.sub), fun i ω1 st H x H' hi le wd _ y => h.yields i ω1 st H x H' hi le wd y⟩
section
variable {K : PySem.W.Frag} {ω : Wo}
theorem itr_loc {a : Addr} {l : Nat} {xs : List PV} (e : ω.ρ[l]? = some a) : ItR K ω ⟨xs, some (l, xs)⟩ (Itl K a) where
  goes := fun i ω1 st H hi le wd ok => by
    obtain ⟨ws, h, r⟩ := wd.obj l a (.lst xs) (le.at e) ok
    have hw : i < ws.length := by rw [← r.length]; exact hi
    exact ⟨ws, ws[i], .of h, by simp [hw]⟩
  stops := fun ω1 st H le wd ok => by
    obtain ⟨ws, h, r⟩ := wd.obj l a (.lst xs) (le.at e) ok
    exact ⟨ws, .of h, by rw [r.length]; exact Nat.le_refl _⟩
  yields := fun i ω1 st H x H' hi le wd ok y => by
    obtain ⟨ws, h, r⟩ := wd.obj l a (.lst xs) (le.at e) ok
    obtain ⟨e1, y⟩ := y
    subst e1
    have hx := y ws (.of h)
    obtain ⟨v, hv, rv⟩ := r.get' hx
    exact ⟨ω1, v, .refl _ _, wd, hv, rv⟩
theorem itr_list {a : Addr} {xs : List PV} {ws : List V} (e : SqL K ω.F a ws) (r : Reps K ω xs ws) : ItR0 K ω xs (Itl K a) where
  goes := fun i H hi s => by
    have hw : i < ws.length := by rw [← r.length]; exact hi
    exact ⟨ws, ws[i], s.seq e, by simp [hw]⟩
  stops := fun H s => ⟨ws, s.seq e, by rw [r.length]; exact Nat.le_refl _⟩
  yields := fun i ω1 st H x H' hi le wd y => by
    obtain ⟨e1, y⟩ := y
    subst e1
    have hx := y ws (wd.sub.seq (le.fz.seq e))
    obtain ⟨v, hv, rv⟩ := r.get' hx
    exact ⟨ω1, v, .refl _ _, wd, hv, rv.mono le⟩
theorem sameT {H H' : Hp} {a : Addr} {xs : List V} (s : Same H H') (h : SqT K H a xs) : SqT K H' a xs := by
  rcases h with (h | ⟨o, h⟩) | h
  · exact .inl (.inl (s _ _ h))
  · exact .inl (.inr ⟨o, s _ _ h⟩)
  · exact .inr h
theorem itr_tup {a : Addr} {xs : List PV} {ws : List V} (e : ω.F a = some (.tup ws)) (r : Reps K ω xs ws) : ItR0 K ω xs (Itt K a) where
  goes := fun i H hi s => by
    have hw : i < ws.length := by rw [← r.length]; exact hi
    exact ⟨ws, ws[i], .of (s _ _ e), by simp [hw]⟩
  stops := fun H s => ⟨ws, .of (s _ _ e), by rw [r.length]; exact Nat.le_refl _⟩
  yields := fun i ω1 st H x H' hi le wd y => by
    obtain ⟨e1, y⟩ := y
    subst e1
    have hx := y ws (.of (wd.sub _ _ (le.fz _ _ e)))
    obtain ⟨v, hv, rv⟩ := r.get' hx
    exact ⟨ω1, v, .refl _ _, wd, hv, rv.mono le⟩
def signs (z : Str) : List PV := z.cps.toList.map fun c => .str ⟨#[c]⟩
theorem itr_str {z : Str} : ItR0 K ω (signs z) (Its z) where
  goes := fun i H hi s => by
    show i < z.cps.size
    simpa [signs] using hi
  stops := fun H s => by
    show z.cps.size ≤ _
    simp [signs]
  yields := fun i ω1 st H x H' hi le wd y => by
    obtain ⟨e1, c, hc, e2⟩ := y
    subst e1
    subst e2
    refine ⟨ω1, .str ⟨#[c]⟩, .refl _ _, wd, ?_, .str _⟩
    unfold signs
    rw [List.getElem?_map]
    have : z.cps.toList[i]? = some c := by rw [Array.getElem?_toList]; exact hc
    rw [this]
    rfl
def rngs (lo : Int) (n : Nat) : List PV := (List.range n).map fun (i : Nat) => .int (lo + (i : Int))
theorem itr_range {lo : Int} {n : Nat} : ItR0 K ω (rngs lo n) (Itr lo n) where
  goes := fun i H hi s => by
    show i < n
    simpa [rngs] using hi
  stops := fun H s => by
    show n ≤ _
    simp [rngs]
  yields := fun i ω1 st H x H' hi le wd y => by
    obtain ⟨e1, e2⟩ := y
    subst e1
    subst e2
    refine ⟨ω1, .int (lo + i), .refl _ _, wd, ?_, .int _⟩
    have hi : i < n := by simpa [rngs] using hi
    simp [rngs, hi]
def enums (xs : List PV) : List PV := xs.zipIdx.map fun p => .tup [.int (p.2 : Nat), p.1]
theorem enums_get {xs : List PV} {i : Nat} {v : PV} (h : xs[i]? = some v) : (enums xs)[i]? = some (.tup [.int (i : Nat), v]) := by
  unfold enums
  rw [List.getElem?_map, List.getElem?_zipIdx, h]
  simp
theorem enum_yield {st : Store} {H : Hp} {ω1 : Wo} {T : Addr} {x : V} {v : PV} {i : Nat} (wd : Wd K ω1 st H) (n : H T = none) (r : Rep K ω1 v x) :
    ∃ ω2 u, Ext ω1 H ω2 (upd H T (.tup [.int (i : Nat), x])) ∧ Wd K ω2 st (upd H T (.tup [.int (i : Nat), x])) ∧ (some (.tup [.int (i : Nat), v]) : Option PV) = some u ∧ Rep K ω2 u (.ref T) := by
  obtain ⟨w, e⟩ := wd.fz n (.tup [.int (i : Nat), x])
  exact ⟨_, _, e, w, rfl, .tup upd_same (.cons (.int _) (.cons (r.mono e.le) .nil))⟩
theorem itr_enumL {a : Addr} {xs : List PV} {ws : List V} (e : SqL K ω.F a ws) (r : Reps K ω xs ws) : ItR0 K ω (enums xs) (Ite K a) where
  goes := fun i H hi s => by
    have hw : i < ws.length := by rw [← r.length]; simpa [enums] using hi
    exact ⟨ws, ws[i], s.seq e, by simp [hw]⟩
  stops := fun H s => ⟨ws, s.seq e, by simp [enums, r.length]⟩
  yields := fun i ω1 st H x H' hi le wd y => by
    obtain ⟨T, z, e1, hT, e2, y⟩ := y
    subst e1
    subst e2
    have hx := y ws (wd.sub.seq (le.fz.seq e))
    obtain ⟨v, hv, rv⟩ := r.get' hx
    rw [enums_get hv]
    exact enum_yield wd hT (rv.mono le)
theorem itr_enumT {a : Addr} {xs : List PV} {ws : List V} (e : ω.F a = some (.tup ws)) (r : Reps K ω xs ws) : ItR0 K ω (enums xs) (IteT K a) where
  goes := fun i H hi s => by
    have hw : i < ws.length := by rw [← r.length]; simpa [enums] using hi
    exact ⟨ws, ws[i], .of (s _ _ e), by simp [hw]⟩
  stops := fun H s => ⟨ws, .of (s _ _ e), by simp [enums, r.length]⟩
  yields := fun i ω1 st H x H' hi le wd y => by
    obtain ⟨T, z, e1, hT, e2, y⟩ := y
    subst e1
    subst e2
    have hx := y ws (.of (wd.sub _ _ (le.fz _ _ e)))
    obtain ⟨v, hv, rv⟩ := r.get' hx
    rw [enums_get hv]
    exact enum_yield wd hT (rv.mono le)
end
/-- a finished list, a tuple, a text, walked -/
def pIter (v : PV) (st : Store) : Res Itms := match v with
  | .tup xs => .ok ⟨xs, none⟩ st
  | .lst xs => .ok ⟨xs, none⟩ st
  | .frz xs => .ok ⟨xs, none⟩ st
  | .str z => .ok ⟨signs z, none⟩ st
  | .loc l => match st[l]? with
    | some (.lst xs) => .ok ⟨xs, some (l, xs)⟩ st
    | none => .stuck
  | _ => .stuck
def iVal (f : EM) : IM := fun env st => (f env st).bind pIter
def pEnum (v : PV) (st : Store) : Res Itms := match v with
  | .tup xs => .ok ⟨enums xs, none⟩ st
  | .lst xs => .ok ⟨enums xs, none⟩ st
  | .frz xs => .ok ⟨enums xs, none⟩ st
  | _ => .stuck
def iEnumM (f : EM) : IM := fun env st => (f env st).bind pEnum
/-- range(n), range(a, b) -/
def pRange1 (vs : List PV) (st : Store) : Res Itms := match vs with
  | [.int j] => if -(2 ^ 62) ≤ j ∧ j < 2 ^ 62 then .ok ⟨rngs 0 j.toNat, none⟩ st else .stuck
  | _ => .stuck
def pRange2 (vs : List PV) (st : Store) : Res Itms := match vs with
  | [.int i, .int j] => if -(2 ^ 62) ≤ i ∧ i < 2 ^ 62 ∧ -(2 ^ 62) ≤ j ∧ j < 2 ^ 62 then .ok ⟨rngs i (j - i).toNat, none⟩ st else .stuck
  | _ => .stuck
def iRange1 (f : EM) : IM := fun env st => (aCons f aNil env st).bind pRange1
def iRange2 (f g : EM) : IM := fun env st => (aCons f (aCons g aNil) env st).bind pRange2
section
variable {X : Cx} {W : WX} {tg e : Expr} {f : EM} {fs : AM} {p pos : Pos}
theorem mi_val (he : ME X W e f) : MI X W tg e (iVal f) := by
  refine ⟨fun pins s σ H R I h => ?_⟩
  obtain ⟨ω, st, env, wd, re, h⟩ := h
  refine thn (he.run pins s σ H _ I ⟨ω, st, env, wd, re, After.bind (Rel := RV X.K) h⟩) fun v s1 hh => ?_
  obtain ⟨x, H1, I1, r1, ω1, st1, pv, e1, wd1, rp, h1⟩ := hh
  unfold pIter at h1
  split at h1
  · cases rp with
    | tup ea rs =>
      cases r1
      have q : R (Itt X.K _) H1 := h1.ok_here wd1 (.of0 (itr_tup ea rs))
      have hq : SqT X.K H1 _ _ := .of (wd1.sub _ _ ea)
      obtain ⟨its, rv, p, hz⟩ := I1.tuple hq
      refine wpAny_pyIter_tuple (show s1.heap.IsTuple _ its.toArray from p) ?_
      refine ⟨s1.heap.objs.size, [s1.heap.objs.size], _, _, H1, rfl, I1.kept (t' := s1.toks) fun b o e => Heap.get?_push_of_some _ e, turn_tuple _ _, ⟨_, Heap.get?_push_size _ rfl, rfl, rfl⟩, fun b hb => ?_, q⟩
      have e : b = s1.heap.objs.size := by simpa using hb
      subst e
      exact I1.fpOk (Nat.le_refl _) (I1.hok.fresh (Nat.le_refl _))
  · cases rp with
    | lst ea rs =>
      cases r1
      have q : R (Itl X.K _) H1 := h1.ok_here wd1 (.of0 (itr_list (.of ea) rs))
      have hq : SqL X.K H1 _ _ := .of (wd1.sub _ _ ea)
      obtain ⟨its, rv, p, hz⟩ := I1.list hq
      refine wpAny_pyIter_list p.isList ?_
      refine ⟨s1.heap.objs.size, [s1.heap.objs.size], _, _, H1, rfl, I1.kept (t' := s1.toks) fun b o e => Heap.get?_push_of_some _ e, turn_list _ _, ⟨_, Heap.get?_push_size _ rfl, rfl, rfl⟩, fun b hb => ?_, q⟩
      have e : b = s1.heap.objs.size := by simpa using hb
      subst e
      exact I1.fpOk (Nat.le_refl _) (I1.hok.fresh (Nat.le_refl _))
  · cases rp with
    | frz ea rs =>
      cases r1
      have q : R (Itl X.K _) H1 := h1.ok_here wd1 (.of0 (itr_list ea rs))
      have hq : SqL X.K H1 _ _ := wd1.sub.seq ea
      obtain ⟨its, rv, p, hz⟩ := I1.list hq
      refine wpAny_pyIter_list p.isList ?_
      refine ⟨s1.heap.objs.size, [s1.heap.objs.size], _, _, H1, rfl, I1.kept (t' := s1.toks) fun b o e => Heap.get?_push_of_some _ e, turn_list _ _, ⟨_, Heap.get?_push_size _ rfl, rfl, rfl⟩, fun b hb => ?_, q⟩
      have e : b = s1.heap.objs.size := by simpa using hb
      subst e
      exact I1.fpOk (Nat.le_refl _) (I1.hok.fresh (Nat.le_refl _))
  · rename_i z
    cases rp
    have q : R (Its z) H1 := h1.ok_here wd1 (.of0 itr_str)
    obtain ⟨t, rfl⟩ := r1
    cases ha : z.cps.all (· < 128)
    · exact wpAny_pyIter_wide ha (pi_one (tk := s1.toks) I1 _ (turn_str _ z t "str_iterator" (.inr rfl)) ⟨_, Heap.get?_push_size _ rfl, rfl, rfl⟩ q)
    · exact wpAny_pyIter_ascii ha (pi_one (tk := s1.toks) I1 _ (turn_str _ z t "str_ascii_iterator" (.inl rfl)) ⟨_, Heap.get?_push_size _ rfl, rfl, rfl⟩ q)
  · rename_i l
    split at h1
    · rename_i xs ok
      cases rp with
      | loc ea =>
        cases r1
        have q : R (Itl X.K _) H1 := h1.ok_here wd1 (itr_loc ea)
        obtain ⟨ws, hw, rs⟩ := wd1.obj _ _ _ ea ok
        have hq : SqL X.K H1 _ _ := .of hw
        obtain ⟨its, rv, p, hz⟩ := I1.list hq
        refine wpAny_pyIter_list p.isList ?_
        refine ⟨s1.heap.objs.size, [s1.heap.objs.size], _, _, H1, rfl, I1.kept (t' := s1.toks) fun b o e => Heap.get?_push_of_some _ e, turn_list _ _, ⟨_, Heap.get?_push_size _ rfl, rfl, rfl⟩, fun b hb => ?_, q⟩
        have e : b = s1.heap.objs.size := by simpa using hb
        subst e
        exact I1.fpOk (Nat.le_refl _) (I1.hok.fresh (Nat.le_refl _))
    · exact False.elim h1
  · exact False.elim h1
theorem mi_range1 {a : Expr} {f1 : EM} (hg : Gl X "range") (hm : X.mg "range" = none) (ha : ME X W a f1) (hs : starEach [a] X.env = [(false, eval a X.env)] := by rfl) : MI X W tg (.Call (.Name "range" p) [a] [] pos) (iRange1 f1) := by
  refine piI (pi_range1 hg hm (ma_cons ha ma_nil (by rw [hs]; rfl)) hs) ?_
  rintro σ H Q ⟨ω, st, env, wd, re, h⟩
  refine ⟨ω, st, env, wd, re, (After.bind (Rel := RL X.K) h).mono ?_⟩
  rintro vs H1 ⟨ω1, st1, ps, e1, wd1, r1, h1⟩
  unfold pRange1 at h1
  split at h1
  · split at h1
    · rename_i j hz
      cases r1 with
      | cons ra r =>
        cases r
        cases ra
        exact ⟨j, rfl, hz.1, hz.2, h1.ok_here wd1 (.of0 itr_range)⟩
    · exact False.elim h1
  · exact False.elim h1
theorem mi_range2 {a b : Expr} {f1 f2 : EM} (hg : Gl X "range") (hm : X.mg "range" = none) (ha : ME X W a f1) (hb : ME X W b f2) (hs : starEach [a, b] X.env = [(false, eval a X.env), (false, eval b X.env)] := by rfl) (hs2 : starEach [b] X.env = [(false, eval b X.env)] := by rfl) :
    MI X W tg (.Call (.Name "range" p) [a, b] [] pos) (iRange2 f1 f2) := by
  refine piI (pi_range2 hg hm (ma_cons ha (ma_cons hb ma_nil (by rw [hs2]; rfl)) (by rw [hs, hs2])) hs hs2) ?_
  rintro σ H Q ⟨ω, st, env, wd, re, h⟩
  refine ⟨ω, st, env, wd, re, (After.bind (Rel := RL X.K) h).mono ?_⟩
  rintro vs H1 ⟨ω1, st1, ps, e1, wd1, r1, h1⟩
  unfold pRange2 at h1
  split at h1
  · split at h1
    · rename_i i j hz
      cases r1 with
      | cons ra r =>
        cases r with
        | cons rb r =>
          cases r
          cases ra
          cases rb
          exact ⟨i, j, rfl, hz, h1.ok_here wd1 (.of0 itr_range)⟩
    · exact False.elim h1
  · exact False.elim h1
theorem mi_enum {a : Expr} {f1 : EM} {elts : List Expr} {kk : Nat} {tpos : Pos} (hg : Gl X "enumerate") (hm : X.mg "enumerate" = none) (ha : ME X W a f1) (hs : starEach [a] X.env = [(false, eval a X.env)] := by rfl) :
    MI X W (.Tuple elts kk tpos) (.Call (.Name "enumerate" p) [a] [] pos) (iEnumM f1) := by
  refine ⟨fun pins s σ H R I h => ?_⟩
  obtain ⟨ω, st, env, wd, re, h⟩ := h
  have hA : tG X W (RL X.K) (aCons f1 aNil) σ H (fun vs H1 => ∃ x ω1 st1 pv, vs = [x] ∧ Ext ω H ω1 H1 ∧ Wd X.K ω1 st1 H1 ∧ Rep X.K ω1 pv x ∧ After (gd X) (wx W σ) ω1 H1 (pEnum pv st1) (RI X.K) R) := by
    refine ⟨ω, st, env, wd, re, ?_⟩
    have h : After (gd X) (wx W σ) ω H ((f1 env st).bind pEnum) (RI X.K) R := h
    show After (gd X) (wx W σ) ω H ((f1 env st).bind fun v st1 => .ok [v] st1) (RL X.K) _
    cases q : f1 env st with
    | ok v st1 =>
      rw [q] at h
      intro ω' H' vs ex w r
      cases r with
      | cons r1 r =>
        cases r
        exact ⟨_, ω', st1, v, rfl, ex, w, r1, After.shift h ex⟩
    | err n fs st1 => rw [q] at h; exact h
    | stuck => rw [q] at h; exact h
  refine Call_ (ld_blt I hg hm boot_enumerate (PyProof.Rows.callWith_type1 (thn ((ma_cons ha ma_nil (by rw [hs]; rfl)).run pos pins s σ H _ I hA) fun us s1 hh => ?_) hs rfl))
  obtain ⟨vs, H1, I1, r1, x, ω1, st1, pv, ev, e1, wd1, rp, h1⟩ := hh
  subst ev
  obtain ⟨u, rfl, ru⟩ := vals1 r1
  have ends : ∀ {a : Addr} {J : It} {tn : Nat → Heap → Prop} {h' : Heap}, (∀ b o, s1.heap.get? b = some o → h'.get? b = some o) → Turn X.prog X.w X.K (.Tuple elts kk tpos) J [s1.heap.objs.size + 1, s1.heap.objs.size] (s1.heap.objs.size + 1) tn → tn 0 h' → R J H1 →
      PIE X pins σ (.Tuple elts kk tpos) R (.ref (s1.heap.objs.size + 1)) { s1 with heap := h' } := fun {a J tn h'} hk T t0 q => by
    refine ⟨s1.heap.objs.size + 1, [s1.heap.objs.size + 1, s1.heap.objs.size], _, _, H1, rfl, I1.kept (t' := s1.toks) hk, T, t0, fun b hb => ?_, q⟩
    have e' : b = s1.heap.objs.size + 1 ∨ b = s1.heap.objs.size := by simpa using hb
    have hle : s1.heap.objs.size ≤ b := by
      rcases e' with z | z
      · rw [z]; exact Nat.le_add_right _ _
      · rw [z]; exact Nat.le_refl _
    exact I1.fpOk hle (I1.hok.fresh hle)
  unfold pEnum at h1
  split at h1
  · cases rp with
    | @tup a _ _ ea rs =>
      cases ru
      have q : R (IteT X.K _) H1 := h1.ok_here wd1 (.of0 (itr_enumT ea rs))
      have hq : SqT X.K H1 _ _ := .of (wd1.sub _ _ ea)
      obtain ⟨its, rv, p', hz⟩ := I1.tuple hq
      have hlt : a < s1.heap.objs.size := by obtain ⟨o, ho, _⟩ := p'; exact Heap.lt_size ho
      refine call_enumerate_begins (begins_tuple a its.toArray) (show s1.heap.IsTuple a its.toArray from p') fun h' he hit hsz hk => wpAny_pyIter_enum he ?_
      exact ends (a := a) hk (turn_enumT a _ _ (Nat.ne_of_lt hlt) (Nat.ne_of_gt (Nat.lt_succ_of_lt hlt))) ⟨⟨.none, he⟩, ⟨_, hit, rfl, rfl⟩, Nat.succ_ne_self _⟩ q
  · cases rp with
    | @lst a _ _ ea rs =>
      cases ru
      have q : R (Ite X.K _) H1 := h1.ok_here wd1 (.of0 (itr_enumL (.of ea) rs))
      have hq : SqL X.K H1 _ _ := .of (wd1.sub _ _ ea)
      obtain ⟨its, rv, p', hz⟩ := I1.list hq
      refine call_enumerate_list p'.isList fun h' he hit hsz hk => wpAny_pyIter_enum he ?_
      exact ends (a := a) hk (turn_enum a _ _) ⟨⟨.none, he⟩, hit, Nat.succ_ne_self _⟩ q
  · cases rp with
    | @frz a _ _ ea rs =>
      cases ru
      have q : R (Ite X.K _) H1 := h1.ok_here wd1 (.of0 (itr_enumL ea rs))
      have hq : SqL X.K H1 _ _ := wd1.sub.seq ea
      obtain ⟨its, rv, p', hz⟩ := I1.list hq
      refine call_enumerate_list p'.isList fun h' he hit hsz hk => wpAny_pyIter_enum he ?_
      exact ends (a := a) hk (turn_enum a _ _) ⟨⟨.none, he⟩, hit, Nat.succ_ne_self _⟩ q
  · exact False.elim h1
end
end PL
/-! PL, part f: built-ins and methods, by plain values. -/
namespace PL
open PySem PySem.Spec PyProof.Rows L2
def intsOf : List PV → Option (List Int)
  | [] => some []
  | .int i :: r => (intsOf r).map (i :: ·)
  | _ :: _ => none
def strsOf : List PV → Option (List Str)
  | [] => some []
  | .str i :: r => (strsOf r).map (i :: ·)
  | _ :: _ => none
theorem intsOf_map : ∀ {xs : List PV} {ns : List Int}, intsOf xs = some ns → xs = ns.map PV.int
  | [], ns, e => by cases e; rfl
  | x :: r, ns, e => by
    cases x with
    | int i =>
      unfold intsOf at e
      rw [Option.map_eq_some_iff] at e
      obtain ⟨ms, e1, e2⟩ := e
      subst e2
      rw [List.map_cons, ← intsOf_map e1]
    | _ => cases e
theorem intsOf_ints : ∀ ns : List Int, intsOf (ns.map PV.int) = some ns
  | [] => rfl
  | n :: ns => by rw [List.map_cons, intsOf, intsOf_ints ns]; rfl
theorem strsOf_map : ∀ {xs : List PV} {ns : List Str}, strsOf xs = some ns → xs = ns.map PV.str
  | [], ns, e => by cases e; rfl
  | x :: r, ns, e => by
    cases x with
    | str i =>
      unfold strsOf at e
      rw [Option.map_eq_some_iff] at e
      obtain ⟨ms, e1, e2⟩ := e
      subst e2
      rw [List.map_cons, ← strsOf_map e1]
    | _ => cases e
theorem strsOf_strs : ∀ ns : List Str, strsOf (ns.map PV.str) = some ns
  | [] => rfl
  | n :: ns => by rw [List.map_cons, strsOf, strsOf_strs ns]; rfl
section
variable {K : PySem.W.Frag} {ω : Wo}
theorem reps_ints : ∀ {ns : List Int} {ws : List V}, Reps K ω (ns.map PV.int) ws → ws = ns.map V.int
  | [], _, .nil => rfl
  | n :: ns, _, .cons r t => by cases r; rw [List.map_cons, reps_ints t]
theorem reps_strs : ∀ {ns : List Str} {ws : List V}, Reps K ω (ns.map PV.str) ws → ws = ns.map V.str
  | [], _, .nil => rfl
  | n :: ns, _, .cons r t => by cases r; rw [List.map_cons, reps_strs t]
end
/-! ### calls of one value -/
def one (p : PV → Store → Res PV) : List PV → Store → Res PV
  | [v], st => p v st
  | _, _ => .stuck
def pLen (v : PV) (st : Store) : Res PV := match v with
  | .str z => if z.length ≤ sizeLine then .ok (.int z.length) st else .stuck
  | _ => match seqOf st v with
    | some (_, xs) => .ok (.int xs.length) st
    | none => .stuck
def pInt (v : PV) (st : Store) : Res PV := match v with
  | .int i => .ok (.int i) st
  | .bl b => .ok (.int (if b then 1 else 0)) st
  | .str a => if a.length ≤ 640 then match PySem.intText? a with
    | some n => .ok (.int n) st
    | none => .stuck else .stuck
  | _ => .stuck
def strInt (i : Int) : Str := toString i
def pStr (v : PV) (st : Store) : Res PV := match v with
  | .int i => if i.natAbs.log2 < 1920 then .ok (.str (strInt i)) st else .stuck
  | _ => .stuck
def pAbs (v : PV) (st : Store) : Res PV := match v with
  | .int i => .ok (.int (if i < 0 then -i else i)) st
  | _ => .stuck
def pSum (v : PV) (st : Store) : Res PV := match seqOf st v with
  | some (false, xs) => match intsOf xs with
    | some ns => .ok (.int ns.sum) st
    | none => .stuck
  | _ => .stuck
def pMin (v : PV) (st : Store) : Res PV := match seqOf st v with
  | some (_, xs) => match intsOf xs with
    | some (n :: ns) => .ok (.int (ns.foldl min n)) st
    | _ => .stuck
  | _ => .stuck
def pMax (v : PV) (st : Store) : Res PV := match seqOf st v with
  | some (_, xs) => match intsOf xs with
    | some (n :: ns) => .ok (.int (ns.foldl max n)) st
    | _ => .stuck
  | _ => .stuck
def pTuple (v : PV) (st : Store) : Res PV := match seqOf st v with
  | some (_, xs) => .ok (.tup xs) st
  | _ => .stuck
def pList (v : PV) (st : Store) : Res PV := match seqOf st v with
  | some (_, xs) => .ok (.lst xs) st
  | _ => .stuck
/-- list(v), to be changed -/
def pListLoc (v : PV) (st : Store) : Res PV := match seqOf st v with
  | some (_, xs) => .ok (.loc st.length) (st ++ [.lst xs])
  | _ => .stuck
def SortOk (xs : List PV) : Prop := isDs xs = true ∧ (∀ d ∈ toDs xs, ∀ d' ∈ toDs xs, PySem.W.alike d d' = true) ∧ ((∀ d ∈ toDs xs, ∃ x r, d = .tuple (x :: r)) ∨ ∀ d ∈ toDs xs, d ≠ .none ∧ ∀ ys, d ≠ .tuple ys) ∧ ∀ d ∈ toDs xs, d.depth ≤ 60
open Classical in
noncomputable def pSorted (v : PV) (st : Store) : Res PV := match seqOf st v with
  | some (false, xs) => if SortOk xs then .ok (.lst (xs.mergeSort (PySem.W.dataLe false toD))) st else .stuck
  | _ => .stuck
section
variable {X : Cx}
theorem CallS.one {f : Value} {p : PV → Store → Res PV}
    (h : ∀ (pins : List (Addr × Obj)) (s : Shared) (σ : L2.St) (H : Hp) (x : V) (u : Value) (Q : VK) (E : XK) (ω : Wo) (st : Store) (a : PV), Inv X pins σ H s → RelV x u → Wd X.K ω st H → Rep X.K ω a x →
      After (gd X) E ω H (p a st) (RV X.K) Q → wpAny (model X.prog X.w) X.A (call f [u]) (EP X pins σ Q) X.xe s) : CallS X f (one p) := .mk' fun pins s σ H xs us Q E ω st as I rx wd ra q => by
  unfold PL.one at q
  split at q
  · cases ra with
    | cons r t =>
      cases t
      obtain ⟨u, rfl, ru⟩ := vals1 rx
      exact h pins s σ H _ u Q E ω st _ I ru wd r q
  · exact False.elim q
theorem vals_one {x : V} {u : Value} (r : RelV x u) : Vals [x] [u] := .cons r .nil
theorem cs_len : CallS X (.builtin "len") (one pLen) := .one fun pins s σ H x u Q E ω st a I rx wd ra h => by
  unfold pLen at h
  split at h
  · split at h
    · rename_i hz
      cases ra
      exact call_len_str pins s σ H [_] [u] Q I (vals_one rx) ⟨_, rfl, hz, h.ok_here wd (.int _)⟩
    · exact False.elim h
  · split at h
    · rename_i t xs q
      obtain ⟨p, ws, e, rs, ht⟩ := seqOf_rep wd ra q
      subst e
      have hl : (xs.length : Int) = (ws.length : Int) := by rw [rs.length]
      rw [hl] at h
      refine call_len_seq pins s σ H [_] [u] Q I (vals_one rx) ⟨p, ws, rfl, ?_, h.ok_here wd (.int _)⟩
      rcases ht with ⟨_, hq⟩ | ⟨_, hq⟩
      · exact .inr hq
      · exact .inl hq
    · exact False.elim h
theorem cs_int : CallS X (.type "int") (one pInt) := .one fun pins s σ H x u Q E ω st a I rx wd ra h => by
  unfold pInt at h
  split at h
  · cases ra
    exact call_int1 pins s σ H [_] [u] Q I (vals_one rx) (.inl ⟨_, rfl, h.ok_here wd (.int _)⟩)
  · cases ra
    exact call_int1 pins s σ H [_] [u] Q I (vals_one rx) (.inr ⟨_, rfl, h.ok_here wd (.int _)⟩)
  · split at h
    · rename_i hz
      split at h
      · rename_i n e
        cases ra
        exact call_int_str pins s σ H [_] [u] Q I (vals_one rx) ⟨_, n, rfl, e, hz, h.ok_here wd (.int _)⟩
      · exact False.elim h
    · exact False.elim h
  · exact False.elim h
theorem cs_str : CallS X (.type "str") (one pStr) := .one fun pins s σ H x u Q E ω st a I rx wd ra h => by
  unfold pStr at h
  split at h
  · split at h
    · rename_i hz
      cases ra
      exact call_str_int pins s σ H [_] [u] Q I (vals_one rx) ⟨_, rfl, hz, h.ok_here wd (.str _)⟩
    · exact False.elim h
  · exact False.elim h
theorem cs_abs : CallS X (.builtin "abs") (one pAbs) := .one fun pins s σ H x u Q E ω st a I rx wd ra h => by
  unfold pAbs at h
  split at h
  · cases ra
    exact call_abs pins s σ H [_] [u] Q I (vals_one rx) ⟨_, rfl, h.ok_here wd (.int _)⟩
  · exact False.elim h
theorem cs_sum (hc : X.calm = true) : CallS X (.builtin "sum") (one pSum) := .one fun pins s σ H x u Q E ω st a I rx wd ra h => by
  unfold pSum at h
  split at h
  · rename_i xs q
    split at h
    · rename_i ns e
      obtain ⟨p, ws, e1, rs, ht⟩ := seqOf_rep wd ra q
      subst e1
      rw [intsOf_map e] at rs
      have e2 := reps_ints rs
      subst e2
      rcases ht with ⟨z, _⟩ | ⟨_, hq⟩
      · cases z
      · exact cr_sum hc pins s σ H [_] [u] Q I (vals_one rx) ⟨p, ns, rfl, hq, h.ok_here wd (.int _)⟩
    · exact False.elim h
  · exact False.elim h
theorem depth_ints0 (ns : List Int) : PyData.depthAll (ns.map .int) = 0 := PySem.W.depth_ints ns
theorem dpAll_ints {H : Hp} : ∀ ns : List Int, DpAll X.K H (ns.map V.int) (ns.map PyData.int)
  | [] => .nil
  | n :: ns => .cons (.int n) (dpAll_ints ns)
theorem alike_ints (n : Int) (ns : List Int) : PySem.W.AlikeAll (PyData.int n :: ns.map PyData.int) := by
  refine ⟨fun x hx y hy => ?_, fun x hx => ?_⟩
  · have e : ∀ z ∈ (PyData.int n :: ns.map PyData.int), ∃ k, z = .int k := fun z hz => by
      rcases List.mem_cons.mp hz with e | hz
      · exact ⟨_, e⟩
      · obtain ⟨k, _, rfl⟩ := List.mem_map.mp hz
        exact ⟨k, rfl⟩
    obtain ⟨a, rfl⟩ := e x hx
    obtain ⟨b, rfl⟩ := e y hy
    rfl
  · rcases List.mem_cons.mp hx with e | hx
    · rw [e]; intro z; cases z
    · obtain ⟨k, _, rfl⟩ := List.mem_map.mp hx
      intro z; cases z
theorem reads_int {h : Heap} {v : Value} {m : Int} {bs : List Addr} (r : Reads h v (.int m) bs) : ∃ t, v = .int m t := by
  cases r
  exact ⟨_, rfl⟩
theorem cs_min (hc : X.calm = true) (hu : X.A.units + 64 < cLine) : CallS X (.builtin "min") (one pMin) := .one fun pins s σ H x u Q E ω st a I rx wd ra h => by
  unfold pMin at h
  split at h
  · rename_i t xs q
    split at h
    · rename_i n ns e
      obtain ⟨p, ws, e1, rs, ht⟩ := seqOf_rep wd ra q
      subst e1
      rw [intsOf_map e] at rs
      have e2 := reps_ints rs
      subst e2
      cases rx
      have hd : X.A.units + 1 + PyData.depthAll (PyData.int n :: ns.map PyData.int) < cLine := by
        have e : PyData.depthAll (PyData.int n :: ns.map PyData.int) = 0 := depth_ints0 (n :: ns)
        rw [e]; omega
      have fin : ∀ (i : Nat) v h' tk bs, Reads h' v (PySem.W.minD (.int n) (ns.map .int)) bs → (∀ b o, s.heap.get? b = some o → h'.get? b = some o) → EP X pins σ Q v { s with heap := h', toks := tk } := fun i v h' tk bs r hk => by
        rw [PySem.W.minD_ints] at r
        obtain ⟨t, rfl⟩ := reads_int r
        exact ⟨.int _, H, I.kept hk, ⟨_, rfl⟩, h.ok_here wd (.int _)⟩
      rcases ht with ⟨_, hq⟩ | ⟨_, hq⟩
      · obtain ⟨its, rv, hl, _⟩ := I.tuple hq
        obtain ⟨as, hr⟩ := Dp.readsAll I _ _ _ (dpAll_ints (n :: ns)) rv
        exact PySem.W.min_tuple_data (I.ok.hd hc) (show s.heap.IsTuple p its.toArray from hl) (as := as) (by simpa using hr) (alike_ints n ns) hd fun i v h' tk bs _ r hk => fin i v h' tk bs r hk
      · obtain ⟨its, rv, hl, _⟩ := I.list hq
        obtain ⟨as, hr⟩ := Dp.readsAll I _ _ _ (dpAll_ints (n :: ns)) rv
        exact PySem.W.min_list_data (I.ok.hd hc) hl.isList (as := as) (by simpa using hr) (alike_ints n ns) hd fun i v h' tk bs _ r hk => fin i v h' tk bs r hk
    · exact False.elim h
  · exact False.elim h
theorem cs_max (hc : X.calm = true) (hu : X.A.units + 64 < cLine) : CallS X (.builtin "max") (one pMax) := .one fun pins s σ H x u Q E ω st a I rx wd ra h => by
  unfold pMax at h
  split at h
  · rename_i t xs q
    split at h
    · rename_i n ns e
      obtain ⟨p, ws, e1, rs, ht⟩ := seqOf_rep wd ra q
      subst e1
      rw [intsOf_map e] at rs
      have e2 := reps_ints rs
      subst e2
      cases rx
      have hd : X.A.units + 1 + PyData.depthAll (PyData.int n :: ns.map PyData.int) < cLine := by
        have e : PyData.depthAll (PyData.int n :: ns.map PyData.int) = 0 := depth_ints0 (n :: ns)
        rw [e]; omega
      have fin : ∀ (i : Nat) v h' tk bs, Reads h' v (PySem.W.maxD (.int n) (ns.map .int)) bs → (∀ b o, s.heap.get? b = some o → h'.get? b = some o) → EP X pins σ Q v { s with heap := h', toks := tk } := fun i v h' tk bs r hk => by
        rw [PySem.W.maxD_ints] at r
        obtain ⟨t, rfl⟩ := reads_int r
        exact ⟨.int _, H, I.kept hk, ⟨_, rfl⟩, h.ok_here wd (.int _)⟩
      rcases ht with ⟨_, hq⟩ | ⟨_, hq⟩
      · obtain ⟨its, rv, hl, _⟩ := I.tuple hq
        obtain ⟨as, hr⟩ := Dp.readsAll I _ _ _ (dpAll_ints (n :: ns)) rv
        exact PySem.W.max_tuple_data (I.ok.hd hc) (show s.heap.IsTuple p its.toArray from hl) (as := as) (by simpa using hr) (alike_ints n ns) hd fun i v h' tk bs _ r hk => fin i v h' tk bs r hk
      · obtain ⟨its, rv, hl, _⟩ := I.list hq
        obtain ⟨as, hr⟩ := Dp.readsAll I _ _ _ (dpAll_ints (n :: ns)) rv
        exact PySem.W.max_list_data (I.ok.hd hc) hl.isList (as := as) (by simpa using hr) (alike_ints n ns) hd fun i v h' tk bs _ r hk => fin i v h' tk bs r hk
    · exact False.elim h
  · exact False.elim h
theorem cs_tuple : CallS X (.type "tuple") (one pTuple) := .one fun pins s σ H x u Q E ω st a I rx wd ra h => by
  unfold pTuple at h
  split at h
  · rename_i t xs q
    obtain ⟨p, ws, e, rs, ht⟩ := seqOf_rep wd ra q
    subst e
    rcases ht with ⟨e, hq⟩ | ⟨_, hq⟩
    · subst e
      refine call_tuple_of pins s σ H [_] [u] Q I (vals_one rx) ⟨p, ws, rfl, .inr ⟨hq, ?_⟩⟩
      cases ra with
      | tup ea r1 =>
        cases q
        exact h.ok_here wd (.tup ea r1)
      | loc ea =>
        unfold seqOf at q
        simp only at q
        split at q <;> cases q
      | _ => cases q
    · exact call_tuple_of pins s σ H [_] [u] Q I (vals_one rx) ⟨p, ws, rfl, .inl ⟨hq, new_tup wd rs h⟩⟩
  · exact False.elim h
theorem cs_list : CallS X (.type "list") (one pList) := .one fun pins s σ H x u Q E ω st a I rx wd ra h => by
  unfold pList at h
  split at h
  · rename_i t xs q
    obtain ⟨p, ws, e, rs, ht⟩ := seqOf_rep wd ra q
    subst e
    exact call_list_of pins s σ H [_] [u] Q I (vals_one rx) ⟨p, ws, rfl, ht.elim (fun z => .inr z.2) (fun z => .inl z.2), new_lst wd rs h⟩
  · exact False.elim h
theorem cs_listLoc : CallS X (.type "list") (one pListLoc) := .one fun pins s σ H x u Q E ω st a I rx wd ra h => by
  unfold pListLoc at h
  split at h
  · rename_i t xs q
    obtain ⟨p, ws, e, rs, ht⟩ := seqOf_rep wd ra q
    subst e
    exact call_list_of pins s σ H [_] [u] Q I (vals_one rx) ⟨p, ws, rfl, ht.elim (fun z => .inr z.2) (fun z => .inl z.2), new_loc wd rs h⟩
  · exact False.elim h
/-- items that stand for plain values -/
def Stands (K : PySem.W.Frag) (ω : Wo) (u : Value) (v : PV) : Prop := ∃ x, RelV x u ∧ Rep K ω v x
theorem each_of {ω : Wo} : ∀ {ws : List V} {us : List Value} {xs : List PV}, Vals ws us → Reps X.K ω xs ws → PySem.W.EachIs (Stands X.K ω) us xs
  | _, _, _, .nil, .nil => .nil
  | _, _, _, .cons r t, .cons r' t' => .cons ⟨_, r, r'⟩ (each_of t t')
theorem each_back {ω : Wo} : ∀ {us : List Value} {xs : List PV}, PySem.W.EachIs (Stands X.K ω) us xs → ∃ ws, Vals ws us ∧ Reps X.K ω xs ws
  | _, _, .nil => ⟨[], .nil, .nil⟩
  | _, _, .cons ⟨x, r1, r2⟩ t => let ⟨ws, h1, h2⟩ := each_back t; ⟨x :: ws, .cons r1 h1, .cons r2 h2⟩
theorem each_reads {pins : List (Addr × Obj)} {s : Shared} {σ : L2.St} {H : Hp} {ω : Wo} {st : Store} (I : Inv X pins σ H s) (wd : Wd X.K ω st H) : ∀ {us : List Value} {xs : List PV}, PySem.W.EachIs (Stands X.K ω) us xs → isDs xs = true → PySem.W.EachIs (fun v b => ∃ as, Reads s.heap v (toD b) as) us xs
  | _, _, .nil, _ => .nil
  | _, _, .cons ⟨x, r1, r2⟩ t, d => by
    simp only [isDs, Bool.and_eq_true] at d
    exact .cons (r2.reads I wd d.1 r1) (each_reads I wd t d.2)
theorem cs_sorted (hu : X.A.units + 64 < cLine) : CallS X (.builtin "sorted") (one pSorted) := .one fun pins s σ H x u Q E ω st a I rx wd ra h => by
  unfold pSorted at h
  split at h
  · rename_i xs q
    split at h
    · rename_i hz
      obtain ⟨h1, h2, h3, h4⟩ := hz
      obtain ⟨p, ws, e, rs, ht⟩ := seqOf_rep wd ra q
      subst e
      cases rx
      rcases ht with ⟨z, _⟩ | ⟨_, hq⟩
      · cases z
      · obtain ⟨its, rv, hl, hz⟩ := I.list hq
        have ei := each_of rv rs
        rw [toDs_map] at h2 h3 h4
        refine PySem.W.sorted_data (R := Stands X.K ω) (enc := toD) hl.isList ei (each_reads I wd ei h1) h2 h3 (by rw [rs.length]; exact hz) (fun b hb => ?_) fun out ho hr => ?_
        · have := h4 _ (List.mem_map.mpr ⟨b, hb, rfl⟩)
          omega
        · obtain ⟨os, v1, v2⟩ := each_back hr
          obtain ⟨ep, he'⟩ := PyProof.Rows.sortedAll_at s.heap its out.toArray
          refine ⟨.ref _, upd H (s.heap.objs.size + 1) (.lst os), I.laid (t' := s.toks) (fun _ _ => PyProof.Rows.sortedAll_old) (Nat.le_succ _) ⟨?_, out, ep, v1, he'⟩, rfl, new_lst wd v2 h _ (I.hok.fresh (Nat.le_succ _))⟩
          rw [v1.length, ho, rs.length]
          exact hz
    · exact False.elim h
  · exact False.elim h
end
/-! ### isinstance -/
def tyName (st : Store) : PV → Option String
  | .non => some "NoneType"
  | .bl _ => some "bool"
  | .int _ => some "int"
  | .str _ => some "str"
  | .tup _ => some "tuple"
  | .lst _ => some "list"
  | .frz _ => some "list"
  | .loc l => match st[l]? with
    | some (.lst _) => some "list"
    | none => none
  | .con _ => none
  | .exc _ _ _ _ => none
def kitAll (t : String) : List PV → Option Bool
  | [] => some false
  | .con (.ty n) :: r => match kitB t n with
    | some true => some true
    | some false => kitAll t r
    | none => none
  | _ :: _ => none
def allTys : List PV → Bool
  | [] => true
  | .con (.ty _) :: r => allTys r
  | _ :: _ => false
def pIsi (vs : List PV) (st : Store) : Res PV := match vs with
  | [v, .con (.ty n)] => match tyName st v with
    | some t => match kitB t n with
      | some b => .ok (.bl b) st
      | none => .stuck
    | none => .stuck
  | [v, .tup cs] => match tyName st v with
    | some t => match kitAll t cs with
      | some b => if allTys cs = true then .ok (.bl b) st else .stuck
      | none => .stuck
    | none => .stuck
  | _ => .stuck
section
variable {X : Cx} {ω : Wo} {st : Store} {H : Hp}
theorem tyx_of (wd : Wd X.K ω st H) {v : PV} {x : V} (r : Rep X.K ω v x) {t : String} (e : tyName st v = some t) : TyX X.K H x (.type t) := by
  cases r with
  | non => cases e; exact .base .non
  | bl b => cases e; exact .base (.bl b)
  | int b => cases e; exact .base (.int b)
  | str b => cases e; exact .base (.str b)
  | tup ea rs => cases e; exact .base (.tup (wd.sub _ _ ea))
  | lst ea rs => cases e; exact .base (.lst (wd.sub _ _ ea))
  | frz ea rs =>
    cases e
    rcases ea with (ea | ⟨o, ea⟩) | ⟨o, its, n, hk, hc, _⟩
    · exact .base (.lst (wd.sub _ _ ea))
    · exact .base (.frz (wd.sub _ _ ea))
    · exact .kList hk hc
  | loc ea =>
    unfold tyName at e
    simp only at e
    split at e
    · rename_i q
      cases e
      obtain ⟨vs, h, _⟩ := wd.obj _ _ _ ea q
      exact .base (.lst h)
    · cases e
  | con v => cases e
  | exc _ _ _ => cases e
theorem tys_of : ∀ {cs : List PV} {ws : List V}, Reps X.K ω cs ws → allTys cs = true → ∃ us, Paired ClsV ws us ∧ ∀ {t : String} {b : Bool}, kitAll t cs = some b → PySem.W.kitAny X.K (.type t) us = some b
  | _, _, .nil, _ => ⟨[], .nil, fun e => by cases e; rfl⟩
  | c :: cs, _, .cons r t, h => by
    cases c with
    | con v =>
      cases v with
      | ty n =>
        obtain ⟨us, h1, h2⟩ := tys_of t (show allTys cs = true from h)
        cases r
        refine ⟨.type n :: us, .cons (.ty n) h1, fun {t b} e => ?_⟩
        unfold kitAll at e
        cases q : kitB t n with
        | none => rw [q] at e; cases e
        | some k =>
          rw [q] at e
          refine kitAny_cons (b := k) (kit_ty q) (fun z => ?_) (fun z => ?_)
          · subst z; exact h2 e
          · subst z; cases e; rfl
      | _ => cases h
    | _ => cases h
theorem cs_isi : CallS X (.builtin "isinstance") pIsi := .mk' fun pins s σ H xs us Q E ω st as I rx wd ra h => by
  unfold pIsi at h
  split at h
  · rename_i v n
    cases ra with
    | cons r1 ra =>
      cases ra with
      | cons r2 ra =>
        cases ra
        cases r2
        split at h
        · rename_i t e
          split at h
          · rename_i b k
            exact call_isi pins s σ H _ us Q I rx ⟨_, _, _, _, b, rfl, .ty n, tyx_of wd r1 e, kit_ty k, h.ok_here wd (.bl b)⟩
          · exact False.elim h
        · exact False.elim h
  · rename_i v cs
    cases ra with
    | cons r1 ra =>
      cases ra with
      | cons r2 ra =>
        cases ra
        cases r2 with
        | tup ea rs =>
          split at h
          · rename_i t e
            split at h
            · rename_i b k
              split at h
              · rename_i ht
                obtain ⟨ws, p1, p2⟩ := tys_of rs ht
                exact call_isiT pins s σ H _ us Q I rx ⟨_, _, _, _, ws, b, rfl, wd.sub _ _ ea, p1, tyx_of wd r1 e, p2 k, h.ok_here wd (.bl b)⟩
              · exact False.elim h
            · exact False.elim h
          · exact False.elim h
  · exact False.elim h
def pGcd (vs : List PV) (st : Store) : Res PV := match vs with
  | [.int a, .int b] => .ok (.int ((Nat.gcd a.natAbs b.natAbs : Nat) : Int)) st
  | _ => .stuck
theorem cs_gcd : CallS X (.builtin "math.gcd") pGcd := .mk' fun pins s σ H xs us Q E ω st as I rx wd ra h => by
  unfold pGcd at h
  split at h
  · cases ra with
    | cons r1 ra =>
      cases ra with
      | cons r2 ra =>
        cases ra
        cases r1
        cases r2
        exact cr_gcd pins s σ H _ us Q I rx ⟨_, _, rfl, h.ok_here wd (.int _)⟩
  · exact False.elim h
end
/-! ### methods -/
def isListP (v : PV) (st : Store) : Bool := match v with
  | .loc l => match st[l]? with
    | some (.lst _) => true
    | none => false
  | _ => false
def pAppend (v : PV) (vs : List PV) (st : Store) : Res PV := match v, vs with
  | .loc l, [y] => match st[l]? with
    | some (.lst xs) => if xs.length < sizeLine then .ok .non (st.set l (.lst (xs ++ [y]))) else .stuck
    | none => .stuck
  | _, _ => .stuck
def isStrP (v : PV) (_ : Store) : Bool := match v with
  | .str _ => true
  | _ => false
def pJoin (v : PV) (vs : List PV) (st : Store) : Res PV := match v, vs with
  | .str a, [w] => match seqOf st w with
    | some (_, xs) => match strsOf xs with
      | some ys => if (ys.map (·.length)).sum + ys.length * a.length ≤ 16777216 then .ok (.str (Txt.join a ys)) st else .stuck
      | none => .stuck
    | none => .stuck
  | _, _ => .stuck
def pBits (v : PV) (st : Store) : Res PV := match v with
  | .int i => .ok (.int (Builtin.Int.intBits i : Nat)) st
  | _ => .stuck
section
variable {X : Cx}
theorem mts_append : MtS X "list" "list.append" isListP pAppend := by
  refine ⟨rAppend, mt_append, fun ω st H v x wd r h => ?_, fun E ω st H v x vs xs Q wd rv rs h => ?_⟩
  · unfold isListP at h
    split at h
    · split at h
      · rename_i q
        cases r with
        | loc ea =>
          obtain ⟨ws, e, _⟩ := wd.obj _ _ _ ea q
          exact .inl ⟨rfl, _, .of e⟩
      · cases h
    · cases h
  · unfold pAppend at h
    split at h
    · split at h
      · rename_i q
        split at h
        · rename_i hz
          cases rv with
          | loc ea =>
            cases rs with
            | cons ry t =>
              cases t
              obtain ⟨ws, e, rw'⟩ := wd.obj _ _ _ ea q
              obtain ⟨w, ex⟩ := wd.wr ea (rw'.append (Reps.one ry))
              exact ⟨_, ws, _, rfl, rfl, e, by rw [← rw'.length]; exact hz, h _ _ _ ex w .non⟩
        · exact False.elim h
      · exact False.elim h
    · exact False.elim h
theorem mts_join : MtS X "str" "str.join" isStrP pJoin := by
  refine ⟨_, mt_join, fun ω st H v x wd r h => ?_, fun E ω st H v x vs xs Q wd rv rs h => ?_⟩
  · unfold isStrP at h
    split at h
    · cases r
      rfl
    · cases h
  · unfold pJoin at h
    split at h
    · split at h
      · rename_i t xs q
        split at h
        · rename_i ys e
          split at h
          · rename_i hz
            cases rv
            cases rs with
            | cons ry tl =>
              cases tl
              obtain ⟨p, ws, e1, r1, ht⟩ := seqOf_rep wd ry q
              subst e1
              rw [strsOf_map e] at r1
              have e2 := reps_strs r1
              subst e2
              refine ⟨_, p, ys, rfl, rfl, ?_, hz, h.ok_here wd (.str _)⟩
              rcases ht with ⟨_, hq⟩ | ⟨_, hq⟩
              · exact .inr hq
              · exact .inl hq
          · exact False.elim h
        · exact False.elim h
      · exact False.elim h
    · exact False.elim h
theorem me_bits {W : WX} {o : Expr} {fo : EM} {apos pos : Pos} (ho : ME X W o fo) (hbase : attributeBase o "bit_length" X.env (eval o X.env) = eval o X.env := by rfl) (hline : (apos.endLine == pos.line) = true := by rfl) :
    ME X W (.Call (.Attribute o "bit_length" apos) [] [] pos) (eUn pBits fo) := by
  refine peI (pe_bits ho hbase hline) ?_
  rintro σ H Q ⟨ω, st, env, wd, re, h⟩
  refine ⟨ω, st, env, wd, re, (After.bind (Rel := RV X.K) h).mono ?_⟩
  rintro x H1 ⟨ω1, st1, v, e1, wd1, r1, h1⟩
  unfold pBits at h1
  split at h1
  · cases r1
    exact ⟨_, rfl, h1.ok_here wd1 (.int _)⟩
  · exact False.elim h1
theorem sts_set : StS X pSet := by
  refine ⟨_, set_list, fun E ω st H o i v xo xi x Q wd ro ri rv h => ?_⟩
  unfold pSet at h
  split at h
  · split at h
    · rename_i q
      split at h
      · rename_i j hj
        cases ro with
        | loc ea =>
          cases ri
          obtain ⟨ws, e, rw'⟩ := wd.obj _ _ _ ea q
          obtain ⟨w, ex⟩ := wd.wr ea (rw'.set j rv)
          exact ⟨_, ws, _, j, rfl, rfl, e, by rw [← rw'.length]; exact hj, h _ _ () ex w trivial⟩
      · exact False.elim h
    · exact False.elim h
  · exact False.elim h
end
end PL
/-! PL, part g: defs of the text by name. -/
namespace PL
open PySem PySem.Spec PyProof.Rows L2
/-- the def x stands at the module's name x, with the text st -/
structure DefOf (K : PySem.W.Frag) (mg : Str → Option Value) (x : Str) (st : Stmt) (ps : List Str) : Prop where
  ex : ∃ f fd, Fun K x x st f fd ∧ mg x = some (.ref f) ∧ Binds K fd ps []
/-- the function object at f -/
def FdAt (K : PySem.W.Frag) (f : Addr) (fd : FuncData) : Prop := ∃ oc od sl, K.lookup f = some ⟨oc, od, .func fd, sl⟩
theorem FdAt.of {K : PySem.W.Frag} {x qual : Str} {st : Stmt} {f : Addr} {fd : FuncData} (F : Fun K x qual st f fd) : FdAt K f fd := by
  obtain ⟨oc, od, kV, doc, pm, an, cdv, ct, osl, e, lk, hcd⟩ := F.ex
  exact ⟨oc, od, osl, lk⟩
theorem FdAt.inj {K : PySem.W.Frag} {f : Addr} {fd fd' : FuncData} (h : FdAt K f fd) (h' : FdAt K f fd') : fd = fd' := by
  obtain ⟨_, _, _, e⟩ := h
  obtain ⟨_, _, _, e'⟩ := h'
  rw [e] at e'
  cases e'
  rfl
/-- the def x is worth the plain function m -/
structure Has (P : Program) (w : World) (K : PySem.W.Frag) (mg : Str → Option Value) (base : Heap) (x : Str) (ps : List Str) (k : Nat) (m : List PV → Store → Res PV) : Prop where
  ex : ∃ f fd, FnOk P w K mg base CX0 k f fd ps (spP ⟨K, mg⟩ ps.length (nE m)) ∧ mg x = some (.ref f) ∧ PySem.W.keepIn K (.ref f) = true ∧ Binds K fd ps [] ∧ FdAt K f fd
section
variable {P : Program} {w : World} {K : PySem.W.Frag} {mg : Str → Option Value} {base : Heap} {x : Str} {st : Stmt} {N ps : List Str} {k n : Nat}
theorem has_of {fm : SM} (d : DefOf K mg x st ps) (S : FnScope N ps (defScope st))
    (hbody : ∀ {f : Addr} (cdv : Value) (A : Around) (outer : List Env) (s : Shared) (H : Hp) (E : XK), Room k (A.deeper (envOfC x (defScope st) s.heap.objs.size f cdv)) →
      MB (cxOf CX0 P w K mg base N x (defScope st) f cdv A outer s H E).nox W0 (defBody st) fm) : Has P w K mg base x ps (k + 1) (runBody N.length fm) := by
  obtain ⟨f, fd, F, hm, hb⟩ := d.ex
  exact ⟨f, fd, okP F S fun cdv A outer s H E hr => hbody cdv A outer s H E hr, hm, F.kp, hb, .of F⟩
theorem has_rec {body : (List PV → Store → Res PV) → SM} (d : DefOf K mg x st ps) (S : FnScope N ps (defScope st)) (hk : 1 ≤ k)
    (hbody : ∀ {f : Addr} (n : Nat), Has P w K mg base x ps (k + n) (fuelF N.length body n) → ∀ (cdv : Value) (A : Around) (outer : List Env) (s : Shared) (H : Hp) (E : XK), Room (k + n) (A.deeper (envOfC x (defScope st) s.heap.objs.size f cdv)) →
      MB (cxOf CX0 P w K mg base N x (defScope st) f cdv A outer s H E).nox W0 (defBody st) (body (fuelF N.length body n))) : Has P w K mg base x ps (k + n) (fuelF N.length body n) := by
  obtain ⟨f, fd, F, hm, hb⟩ := d.ex
  exact ⟨f, fd, okP_rec F S hk (fun n h cdv A outer s H E hr => hbody n ⟨f, fd, h, hm, F.kp, hb, .of F⟩ cdv A outer s H E hr) n, hm, F.kp, hb, .of F⟩
end
section
variable {X : Cx} {W : WX} {x : Str} {p pos : Pos} {e : Expr} {es : List Expr} {fs : AM} {ps : List Str} {k : Nat} {m : List PV → Store → Res PV}
theorem me_callH {n : Nat} (h : Has X.prog X.w X.K X.mg X.base x ps k m) (hr : Room k X.A) (ha : MA X W (e :: es) fs) (hn : ps.length = n := by rfl) (hg : Gl X x := by rfl) (hdb : (x == ("__debug__" : Str)) = false := by decide)
    (he : starEach (e :: es) X.env = (false, eval e X.env) :: starEach es X.env := by rfl) (hpl : (backTo pos (starEach es X.env)).any (·.1) = false := by rfl) :
    ME X W (.Call (.Name x p) (e :: es) [] pos) (eCall n m fs) := by
  subst hn
  obtain ⟨f, fd, F, hm, hk, hb, _⟩ := h.ex
  exact me_call F hr hg hm hk hb ha hdb he hpl
end
theorem bb_len : bootBuiltins "len" = some (.builtin "len") := by decide +kernel
theorem bb_abs : bootBuiltins "abs" = some (.builtin "abs") := by decide +kernel
theorem bb_sum : bootBuiltins "sum" = some (.builtin "sum") := by decide +kernel
theorem bb_min : bootBuiltins "min" = some (.builtin "min") := by decide +kernel
theorem bb_max : bootBuiltins "max" = some (.builtin "max") := by decide +kernel
theorem bb_sorted : bootBuiltins "sorted" = some (.builtin "sorted") := by decide +kernel
theorem bb_isinstance : bootBuiltins "isinstance" = some (.builtin "isinstance") := by decide +kernel
theorem bt_int : bootBuiltins "int" = some (.type "int") := by decide +kernel
theorem bt_str : bootBuiltins "str" = some (.type "str") := by decide +kernel
theorem bt_bool : bootBuiltins "bool" = some (.type "bool") := by decide +kernel
theorem bt_tuple : bootBuiltins "tuple" = some (.type "tuple") := by decide +kernel
theorem bt_list : bootBuiltins "list" = some (.type "list") := by decide +kernel
theorem bt_dict : bootBuiltins "dict" = some (.type "dict") := by decide +kernel
end PL
/-! PL, part xb: the __init__ of an own error class over ValueError: super().__init__('..'); self.f = f -/
namespace PLX
open PySem PySem.W PySem.Calls PySem.Spec PyProof.Rows PySem.HandSPX
def iA (f : Str) (p1 p2 : Pos) : Arguments := { posonlyargs := [], args := [{ arg := "self", annotation := none, pos := p1 }, { arg := f, annotation := none, pos := p2 }], vararg := none, kwonlyargs := [], kw_defaults := [], kwarg := none, defaults := [] }
def iB (f msg : Str) (j : Nat) (a1 a2 a3 a4 a5 a6 q1 q2 q3 q4 : Pos) : List Stmt :=
  [.Expr (.Call (.Attribute (.Call (.Name "super" a1) [] [] a2) "__init__" a3) [.Constant (.str msg) j a4] [] a5) a6, .Assign [.Attribute (.Name "self" q1) f q2] (.Name f q3) q4]
def iS (f : Str) : Scope := { kind := .function, names := [(PySem.Str.ofString "self", .local), (f, .local), (PySem.Str.ofString "__class__", .free), (PySem.Str.ofString "super", .globalImplicit)], isGenerator := false, isCoroutine := false, more := [] }
/-- a field's name that is none of the text's other names -/
structure FldOk (f : Str) : Prop where
  lf : (iS f).names.lookup f = some .local
  lc : (iS f).names.lookup ("__class__" : Str) = some .free
  ls : (iS f).names.lookup ("super" : Str) = some .globalImplicit
  b1 : ∀ (x : Addr) (v : Value), ([(("self" : Str), Value.ref x), (f, v)] : List (Str × Value)).reverse.lookup ("self" : Str) = some (.ref x)
  b2 : ∀ (x : Addr) (v : Value), ([(("self" : Str), Value.ref x), (f, v)] : List (Str × Value)).reverse.lookup f = some v
  db : (f == ("__debug__" : Str)) = false
  bd : ∀ (s : Shared) (q : Str) (p1 p2 : Pos) (body : List Stmt) (doc pm : Value) (an : Option Addr) (cd ct : Value) (cc : Addr) (a v : Value),
    BindsTo s (ksFn "__init__" q (iA f p1 p2) body (iS f) .none .none doc pm an cd ct cc) ⟨[a, v], []⟩ [("self", a), (f, v)]
/-- where the pieces of the line super().__init__('..') stand -/
def SupOk (f qual msg : Str) (j : Nat) (a1 a2 a3 a4 a5 a6 : Pos) : Prop :=
  ∃ pl : Sem Bool, ∀ (L fI : Addr) (cd : Value) (cc : Addr), eval (.Call (.Attribute (.Call (.Name "super" a1) [] [] a2) "__init__" a3) [.Constant (.str msg) j a4] [] a5) (ksEnv qual (iS f) L fI cd cc) = (do
      let ov ← attributeBase (.Call (.Name "super" a1) [] [] a2) "__init__" (ksEnv qual (iS f) L fI cd cc) (eval (.Call (.Name "super" a1) [] [] a2) (ksEnv qual (iS f) L fI cd cc))
      standAt a3.atName
      let (g, first) ← holding [ov] (getMethod ov "__init__" pl)
      callWith a5 g first (backTo a5 (starEach [.Constant (.str msg) j a4] (ksEnv qual (iS f) L fI cd cc))) []) ∧
    swapsWith (.Call (.Attribute (.Call (.Name "super" a1) [] [] a2) "__init__" a3) [.Constant (.str msg) j a4] [] a5) none a6.line (ksEnv qual (iS f) L fI cd cc) = pure false
/-- what the written part says of the class at C and of its __init__, at fI -/
structure XTxt (prog : Program) (K : Frag) (mg : Str → Option Value) (x : Str) (C fI : Addr) (f qual : Str) : Prop where
  gC : mg x = some (.ref C)
  cls : ∃ nm q N bs bm sn sub ab col dd k0 k1 k2 k3 k5, K.lookup C = some (excClassObj nm q C N bs bm true sn sub ab col dd k0 k1 k2 k3 k5 "ValueError.__new__") ∧ refsVE bm = true
  sa : findIn K (.ref C) "__setattr__" = some (some (.builtin "object.__setattr__"))
  ga : findIn K (.ref C) "__getattribute__" = some (some (.builtin "BaseException.__getattribute__"))
  gg : findIn K (.ref C) "__getattr__" = some none
  noN : findIn K (.ref C) f = some none
  iC : findIn K (.ref C) "__init__" = some (some (.ref fI))
  tC : typeIn K (.ref fI) = some (.type "function")
  kC : keepIn K (.ref C) = true
  exC : subIn K (.ref C) (.type "BaseException") = some true
  tyC : typeIn K (.ref C) = some (.type "type")
  hdC : hasDictIn K C = true
  mC : mroIn K C (.ref C) = some true
  su : mg "super" = none
  ho : nsIn K cStatics "thirdparty.any" = some none
  hm : ks_superIn K C C "__init__" = some (some (.builtin "ValueError.__init__"))
  hB : subIn K (.ref C) (.type "ValueError") = some true
  top : (prog.main.scope.names.lookup ("super" : Str)).isSome = false
  fok : FldOk f
  fn : ∃ (oc : Value) (od : Option Addr) (doc pm : Value) (an : Option Addr) (cda cc : Addr) (ct : Value) (osl : Array (Option Value)) (ccl : Value) (cdd : Option Addr) (vs : Array Value) (ccs : Array (Option Value)) (cl : Value) (cld : Option Addr) (csl : Array (Option Value)) (file : Str) (tf : Tok)
    (p1 p2 a1 a2 a3 a4 a5 a6 q1 q2 q3 q4 : Pos) (msg : Str) (j : Nat), SupOk f qual msg j a1 a2 a3 a4 a5 a6 ∧
    K.lookup fI = some ⟨oc, od, .func (ksFn "__init__" qual (iA f p1 p2) (iB f msg j a1 a2 a3 a4 a5 a6 q1 q2 q3 q4) (iS f) .none .none doc pm an (.ref cda) ct cc), osl⟩ ∧ codeIn K (.ref cda) qual = true ∧
    K.lookup cda = some ⟨ccl, cdd, .fields vs, ccs⟩ ∧ vs[2]? = some (.str file tf) ∧ ((prog.main.file : Str) == file) = true ∧ K.lookup cc = some ⟨cl, cld, .cell (some (.ref C)), csl⟩
/-- what __init__ leaves of a fresh exception at x -/
structure InitEnd (h h' : Heap) (x C dx : Addr) (f : Str) (v : Value) : Prop where
  keep : ∀ b o, b ≠ x → h.get? b = some o → h'.get? b = some o
  obj : ∃ t1, h'.get? x = some { cls := .ref C, dict := some dx, data := .fields #[.ref t1, .none, .none, .none, .bool false, .none] }
  dbig : h.objs.size ≤ dx
  dne : dx ≠ x
  ns : h'.Ns1 dx (fun y => if y = f then some v else none)
section
variable {prog : Program} {w : World} {A : Around} {R : Result → Shared → Prop} {s : Shared} {K : Frag} {mg mb : Str → Option Value} {C fI : Addr} {x : Str} {f qual : Str}
theorem x_init (T : XTxt prog K mg x C fI f qual) {e t0 : Addr} {v : Value} (X : K.In s.heap) (hg : s.heap.Ns mainGlobals mg) (hb : s.heap.Ns builtinsNs mb) (hbs : mb "super" = some (.type "super")) (hlim : s.heap.NoLimit)
    (hx : s.heap.get? e = some (excO C t0)) (hnx : K.lookup e = none) (hroom : A.depth < recursionLimit)
    (hq : ∀ h' tk dx, InitEnd s.heap h' e C dx f v → R (.ok (.ret .none)) { s with heap := h', toks := tk }) :
    codeAny (model prog w) A (.call (.ref fI) ⟨[.ref e, v], []⟩) R s := by
  obtain ⟨oc, od, doc, pm, an, cda, cc, ct, osl, ccl, cdd, vs, ccs, cl, cld, csl, file, tf, p1, p2, a1, a2, a3, a4, a5, a6, q1, q2, q3, q4, msg, j, ⟨pl, hsu⟩, lf, hcd, lcd, hvs, hfile, lcc⟩ := T.fn
  obtain ⟨nm, q, N, bs, bm, sn, sub, ab, col, dd, k0, k1, k2, k3, k5, hC, hbm⟩ := T.cls
  have hcl : clsIn K C = some { name := nm, bases := bs, mro := .ref C :: bm, ns := N, qualname := q, hasDict := true, slotNames := sn, subclasses := sub, abstract := ab, collection := col, hasDel := false } := by unfold clsIn; rw [hC] <;> rfl
  refine ks_codeAny_call_defAt (fd := ksFn "__init__" qual (iA f p1 p2) (iB f msg j a1 a2 a3 a4 a5 a6 q1 q2 q3 q4) (iS f) .none .none doc pm an (.ref cda) ct cc) (body := iB f msg j a1 a2 a3 a4 a5 a6 q1 q2 q3 q4) (binds := [("self", .ref e), (f, v)]) hroom (X _ _ lf) rfl hlim (codeRec_of X hcd) rfl (T.fok.bd s qual p1 p2 _ doc pm an (.ref cda) ct cc (.ref e) v) ?_ ?_ (fun h₁ hns k => ?_) rfl rfl rfl
  · intro y hy
    show y.2 ≠ .cell
    have hy : y ∈ (iS f).names := hy
    simp only [iS, List.mem_cons, List.not_mem_nil, or_false] at hy
    rcases hy with rfl | rfl | rfl | rfl <;> intro z <;> cases z
  · intro y hy
    simp only [List.mem_cons, List.not_mem_nil, or_false] at hy
    rcases hy with rfl | rfl
    · rfl
    · exact T.fok.lf
  have X₁ : K.In h₁ := X.keeps k
  have hx₁ := k _ _ hx
  obtain ⟨oC, hD1, hD2⟩ : ∃ oD, h₁.get? C = some oD ∧ oD.data = .cls { name := nm, bases := bs, mro := .ref C :: bm, ns := N, qualname := q, hasDict := true, slotNames := sn, subclasses := sub, abstract := ab, collection := col, hasDel := false } := ⟨_, X₁ _ _ hC, rfl⟩
  have hLe : s.heap.objs.size ≠ e := Nat.ne_of_gt (Heap.lt_size hx)
  show _root_.PySem.wpAt _ _ _ (execs (_ :: _) (ksEnv qual (iS f) s.heap.objs.size fI (.ref cda) cc)) _ _ _
  refine ks_wpAt_execs_cons (ks_wpAt_Expr_any (ks_wpAt_MethodCall (pl := pl) ?_ (hsu _ _ _ _).1) rfl (hsu _ _ _ _).2)
  refine ks_wpAt_super_base (env := ksEnv qual (iS f) s.heap.objs.size fI (.ref cda) cc) T.fok.ls T.fok.lc rfl rfl (X₁ _ _ lf) rfl rfl rfl (X₁ _ _ lcd) rfl hvs hfile T.top ?_
  refine ks_loadName_global rfl T.fok.ls (loadGlobal_builtin (env := ksEnv qual (iS f) s.heap.objs.size fI (.ref cda) cc) (hg.keeps k) T.su (hb.keeps k) hbs ⟨rfl, ?_⟩)
  refine wpAny_loadName_free rfl T.fok.lc rfl ⟨_, X₁ _ _ lcc, rfl⟩ ?_
  refine wpAny_loadName_local rfl rfl hns (T.fok.b1 e v) ?_
  refine ks_wpAny_isType_cls hD1 hD2 ⟨rfl, ?_⟩
  refine ks_wpAny_call_super hD1 hD2 hx₁ rfl (fun c z => by cases z) (looks_mroIn X₁ T.mC) (fun h₂ e₂ k₂ => ?_)
  have X₂ : K.In h₂ := X₁.keeps k₂
  have hx₂ := k₂ _ _ hx₁
  have I₂ : InstAt h₂ e (excO C t0) C none := ⟨hx₂, rfl, rfl, trivial⟩
  have hsup := T.hm
  unfold ks_superIn at hsup
  rw [hcl, Option.bind_some] at hsup
  have hxC : e ≠ C := fun z => by rw [z] at hnx; rw [hnx] at hC; cases hC
  refine kxs_getMethod kxs_ValueError e₂ (looks_opaque X₂ T.ho) (l₀ := .ref C :: bm) ?_ rfl X₂ hsup (I₂.type.andThen (looks_subIn X₂ T.hB)) hxC rfl ?_
  · exact fun A Q E s k q => wpAny_bind ((looks_clsIn X₂ hcl) A _ E s k (wpAny_pure q))
  refine kxs_callWith (i := "ValueError.__init__") (x := e) rfl (evalArgs_plain ?_)
  refine spliced_cons ?_
  refine wpAny_Constant_str (k := j) (pos := a4) ?_
  refine spliced_nil ?_
  have k₃ : ∀ b o, h₂.get? b = some o → (h₂.push (kxs_mw "ValueError.__init__" e)).get? b = some o := fun b o z => Heap.get?_push_of_some _ z
  refine ⟨Heap.get?_push_at rfl rfl, ?_⟩
  refine call_mw hbm (X₂.keeps k₃ _ _ hC) (k₃ _ _ hx₂) (Heap.get?_push_at rfl rfl) (by rw [sizeLine_eq]; exact (by decide : 1 ≤ 16777216)) fun h₄ t1 k₄ hx₄ => ?_
  have kA : ∀ b o, h₁.get? b = some o → b ≠ e → h₄.get? b = some o := fun b o z n => k₄ b o n (k₃ _ _ (k₂ _ _ z))
  have kB : ∀ b o, b ≠ e → s.heap.get? b = some o → h₄.get? b = some o := fun b o n z => kA b o (k _ _ z) n
  have X₄ : K.In h₄ := fun b o z => kB b o (fun q => by rw [q, hnx] at z; cases z) (X b o z)
  have hn₄ : h₄.Ns s.heap.objs.size (fun y => ([(("self" : Str), Value.ref e), (f, v)] : List (Str × Value)).reverse.lookup y) := hns.at fun o z => kA _ _ z hLe
  show _root_.PySem.wpAt _ _ _ (execs (_ :: _) (ksEnv qual (iS f) s.heap.objs.size fI (.ref cda) cc)) _ _ _
  refine wpAt_of_wpAny (wpAny_execs_cons (plainObj_wpAny_Assign_Attribute ?_))
  refine wpAny_Name (wpAny_loadName_local rfl T.fok.lf hn₄ (T.fok.b2 e v) ?_) T.fok.db
  refine wpAny_Name (wpAny_loadName_local rfl rfl hn₄ (T.fok.b1 e v) ?_) rfl
  refine set_plain X₄ (ox := excO C t1) (od := none) ⟨hx₄, rfl, rfl, trivial⟩ T.sa ?_
  refine exc_osa X₄ hx₄ hcl (show refsVE (.ref C :: bm) = true from hbm) rfl T.noN (fun h₅ tk₅ dx k₅ dn dne hx₅ hn₅ => ?_)
  show wpAny _ _ (execs _ _) _ _ _
  have z : s.heap.objs.size < h₄.objs.size := hn₄.lt
  exact wpAny_execs_nil (hq h₅ tk₅ dx ⟨fun b o hb q => k₅ b o hb (kB b o hb q), ⟨t1, hx₅⟩, Nat.le_of_lt (Nat.lt_of_lt_of_le z dn), dne, hn₅⟩)
end
theorem fld_ok {f : Str} (h1 : (iS f).names.lookup f = some .local) (h2 : (iS f).names.lookup ("__class__" : Str) = some .free) (h3 : (iS f).names.lookup ("super" : Str) = some .globalImplicit) (h4 : (("self" : Str) == f) = false) (h5 : (f == ("__debug__" : Str)) = false)
    (bd : ∀ (s : Shared) (q : Str) (p1 p2 : Pos) (body : List Stmt) (doc pm : Value) (an : Option Addr) (cd ct : Value) (cc : Addr) (a v : Value),
    BindsTo s (ksFn "__init__" q (iA f p1 p2) body (iS f) .none .none doc pm an cd ct cc) ⟨[a, v], []⟩ [("self", a), (f, v)]) : FldOk f :=
  ⟨h1, h2, h3, fun x v => by simp [List.lookup, h4], fun x v => by simp [List.lookup], h5, bd⟩
theorem fld_fault : FldOk "fault" := fld_ok (by decide +kernel) (by decide +kernel) (by decide +kernel) (by decide +kernel) (by decide +kernel) fun s q p1 p2 body doc pm an cd ct cc a v => BindsTo.of_eq (by first | rfl | with_unfolding_all rfl)
end PLX
/-! PL, part xc: an own error class called -/
namespace PLX
open PySem PySem.W PySem.Calls PySem.Spec PyProof.Rows PySem.HandSPX
/-- an error made of the class at C -/
structure XMade (h h' : Heap) (e C d : Addr) (f : Str) (v : Value) : Prop where
  keep : ∀ b o, h.get? b = some o → h'.get? b = some o
  new : h.objs.size ≤ e
  obj : ∃ t1, h'.get? e = some { cls := .ref C, dict := some d, data := .fields #[.ref t1, .none, .none, .none, .bool false, .none] }
  dbig : h.objs.size ≤ d
  dne : d ≠ e
  ns : h'.Ns1 d (fun y => if y = f then some v else none)
section
variable {prog : Program} {w : World} {A : Around} {R : Result → Shared → Prop} {s : Shared} {K : Frag} {mg mb : Str → Option Value} {C fI : Addr} {x : Str} {f qual : Str}
theorem one_size (v : Value) : [v].length ≤ sizeLine := by
  rw [sizeLine_eq]
  exact (by decide : 1 ≤ 16777216)
theorem x_made (T : XTxt prog K mg x C fI f qual) {v : Value} (X : K.In s.heap) (hg : s.heap.Ns mainGlobals mg) (hb : s.heap.Ns builtinsNs mb) (hbs : mb "super" = some (.type "super")) (hlim : s.heap.NoLimit) (hroom : A.depth + 1 < recursionLimit)
    (hq : ∀ h' tk e d, XMade s.heap h' e C d f v → R (.ok (.ret (.ref e))) { s with heap := h', toks := tk }) :
    codeAny (model prog w) A (.call (.ref C) ⟨[v], []⟩) R s := by
  obtain ⟨nm, q, N, bs, bm, sn, sub, ab, col, dd, k0, k1, k2, k3, k5, hC, hbm⟩ := T.cls
  obtain ⟨hp, g, dr, tk, os⟩ := s
  have k : ∀ b o, hp.get? b = some o → ((hp.push (kdv_tup [v])).push (excO C hp.objs.size)).get? b = some o := fun b o e => Heap.get?_push_of_some _ (Heap.get?_push_of_some _ e)
  have hget : ((hp.push (kdv_tup [v])).push (excO C hp.objs.size)).get? (hp.objs.size + 1) = some (excO C hp.objs.size) := by heap_get
  have hnx : K.lookup (hp.objs.size + 1) = none := by
    cases e : K.lookup (hp.objs.size + 1) with
    | none => rfl
    | some o =>
      have z : hp.get? (hp.objs.size + 1) = some o := X _ _ e
      exact absurd (Nat.lt_of_succ_lt (Heap.lt_size z)) (Nat.lt_irrefl _)
  refine call_own F.excBase_ValueError (fun X => refsVE_contains X bm hbm) (X _ _ hC) (looks_findIn X T.iC) (fun self => bind_fn X self T.tC) (one_size v) ?_
  refine x_init (s := ⟨(hp.push (kdv_tup [v])).push (excO C hp.objs.size), g, dr, tk, os⟩) T (X.keeps k) (hg.keeps k) (hb.keeps k) hbs (hlim.keeps k) hget hnx ?_ fun h' tk' dx ⟨k', hx, dn, dne, hns⟩ => ?_
  · show A.depth + 1 < recursionLimit
    exact hroom
  · have old : ∀ b o, hp.get? b = some o → h'.get? b = some o := fun b o e => k' b o (Nat.ne_of_lt (Nat.lt_succ_of_lt (Heap.lt_size e))) (k b o e)
    have z : hp.objs.size + 1 + 1 ≤ dx := by
      first
        | (simpa only [Heap.size_push] using dn)
        | exact dn
        | (have q := dn; rw [Heap.size_push, Heap.size_push] at q; exact q)
    exact ⟨rfl, hq h' tk' (hp.objs.size + 1) dx ⟨old, Nat.le_succ _, hx, Nat.le_trans (Nat.le_trans (Nat.le_succ _) (Nat.le_succ _)) z, dne, hns⟩⟩
end
end PLX
namespace L2
open PySem PySem.Spec PyProof.Rows
section
variable {X : Cx} {C fI : Addr} {x f qual : Str}
theorem pmk_x {a : Expr} {ta : TA} {p pos : Pos} {k : Nat} (T : PLX.XTxt X.prog X.K X.mg x C fI f qual) (hr : Room (k + 1) X.A) (ha : PA X [a] ta) (hg : Gl X x := by rfl) (hdb : (x == ("__debug__" : Str)) = false := by decide)
    (he : starEach (a :: []) X.env = (false, eval a X.env) :: starEach [] X.env := by rfl) (hpl : (backTo pos (starEach [] X.env)).any (·.1) = false := by rfl) :
    PMk X (.Call (.Name x p) [a] [] pos) (fun σ H Q => ta σ H fun vs H1 => ∃ v, vs = [v] ∧ ∀ d, H1 d = none → Q (.ref C) (some d) (upd H1 d (.xd [(f, v)]))) := by
  intro pins s σ H Q I h
  refine wpAny_Call_Name_kw (ld_glob I hg T.gC ?_ hdb)
  refine PySem.W.callWith_K (h₀ := X.base) I.ok.mod.kin T.kC (thn (ha.run pos pins s σ H _ I h) fun us s1 hh => ?_) he hpl
  obtain ⟨vs, H1, I1, r1, v, ev, q1⟩ := hh
  subst ev
  refine ⟨I1.kIn, ?_⟩
  cases r1 with
  | cons rv rn =>
    rename_i v' us'
    cases rn
    show wpAny _ _ (call (.ref C) [v']) _ _ _
    have hlim := I1.nolimit
    obtain ⟨mb, hb1, hb2⟩ := I1.mod.blt
    have hgl := I1.mod.glob.keeps I1.bk
    have hbl := hb1.keeps I1.bk
    obtain ⟨hp, g, dr, tk, os⟩ := s1
    refine wpAny_call (PLX.x_made T I1.kIn hgl hbl ((hb2 _ (by decide)).trans (by decide +kernel)) hlim (by have := hr.dp; omega) fun h' tk' e d M => ?_)
    show MkP X pins σ Q (.ref e) ⟨h', g, dr, tk', os⟩
    obtain ⟨t1, hoe⟩ := M.obj
    have hns := M.ns
    obtain ⟨G', g1, g2⟩ := restrict h' fun b => decide (b ≠ e)
    have gk : ∀ b, b ≠ e → G'.get? b = h'.get? b := fun b hb => g1 b (decide_eq_true hb)
    have ge : G'.get? e = none := g2 e (by simp)
    have old : ∀ b o, hp.get? b = some o → G'.get? b = some o := fun b o q => (gk b (Nat.ne_of_lt (Nat.lt_of_lt_of_le (Heap.lt_size q) M.new))).trans (M.keep b o q)
    have ob : ObjOk X.prog X.w (upd H1 d (.xd [(f, v)])) G' d (.xd [(f, v)]) :=
      ⟨_, hns.at (fun o q => (gk d M.dne).trans q), fun g => relO_put (fs := []) (mA := fun _ => none) rv (fun _ => True.intro) g⟩
    have J : Inv X pins σ (upd H1 d (.xd [(f, v)])) ⟨G', g, dr, tk', os⟩ := I1.laid (t' := tk') old M.dbig ob
    refine ⟨e, _, _, ⟨G', g, dr, tk', os⟩, _, .ref C, some d, rfl, J, fun b o q => ?_, ge, hoe, ⟨rfl, rfl⟩, rfl, rfl, ?_, rfl, I1.bare, raises_own T.exC T.tyC, q1 d (I1.hok.fresh M.dbig)⟩
    · by_cases hb : b = e
      · have q' : G'.get? b = some o := q
        rw [hb, ge] at q'; cases q'
      · exact (gk b hb).symm.trans q
    · rw [upd_ne (Ne.symm M.dne)]
      exact I1.hok.fresh M.new
/-- x(a).f -/
theorem pe_mkFld {a : Expr} {te : TE} {p pos pos2 : Pos} {k : Nat} (T : PLX.XTxt X.prog X.K X.mg x C fI f qual) (hr : Room (k + 1) X.A) (ha : PE X a te) (hg : Gl X x := by rfl) (hdb : (x == ("__debug__" : Str)) = false := by decide)
    (he : starEach (a :: []) X.env = (false, eval a X.env) :: starEach [] X.env := by rfl) (hpl : (backTo pos (starEach [] X.env)).any (·.1) = false := by rfl)
    (hb : attributeBase (.Call (.Name x p) [a] [] pos) f X.env (eval (.Call (.Name x p) [a] [] pos) X.env) = eval (.Call (.Name x p) [a] [] pos) X.env := by rfl) :
    PE X (.Attribute (.Call (.Name x p) [a] [] pos) f pos2) te := by
  refine ⟨fun pins s σ H Q I h => ?_⟩
  have ha' : PA X [a] (tCons te tNil) := pa_cons ha pa_nil he
  refine attr_of hb ?_
  refine wpAny_Call_Name_kw (ld_glob I hg T.gC ?_ hdb)
  refine PySem.W.callWith_K (h₀ := X.base) I.ok.mod.kin T.kC (thn (ha'.run pos pins s σ H (fun vs H' => match vs with | [v] => Q v H' | _ => False) I h) fun us s1 hh => ?_) he hpl
  obtain ⟨vs, H1, I1, r1, q1⟩ := hh
  obtain ⟨v, rfl⟩ : ∃ v, vs = [v] := by
    match vs, q1 with
    | [v], _ => exact ⟨v, rfl⟩
  have q1 : Q v H1 := q1
  refine ⟨I1.kIn, ?_⟩
  cases r1 with
  | cons rv rn =>
    rename_i v' us'
    cases rn
    show wpAny _ _ (call (.ref C) [v']) _ _ _
    have hlim := I1.nolimit
    obtain ⟨mb, hb1, hb2⟩ := I1.mod.blt
    have hgl := I1.mod.glob.keeps I1.bk
    have hbl := hb1.keeps I1.bk
    obtain ⟨hp, g, dr, tk, os⟩ := s1
    refine wpAny_call (PLX.x_made T I1.kIn hgl hbl ((hb2 _ (by decide)).trans (by decide +kernel)) hlim (by have := hr.dp; omega) fun h' tk' e d M => ?_)
    obtain ⟨t1, hoe⟩ := M.obj
    have J : Inv X pins σ H1 ⟨h', g, dr, tk', os⟩ := I1.kept (t' := tk') M.keep
    obtain ⟨od, ho, hl⟩ := lookIn_ns M.ns
    have IA : PySem.W.InstAt h' e { cls := .ref C, dict := some d, data := .fields #[.ref t1, .none, .none, .none, .bool false, .none] } C (some od) := ⟨hoe, rfl, rfl, ho⟩
    exact HandSPX.exc_get (s := ⟨h', g, dr, tk', os⟩) J.kIn IA T.ga T.gg T.exC (PySem.W.findObj_own T.hdC T.noN rfl (by rw [hl, if_pos rfl])) (handed_of rv) ⟨v, H1, J.tok _, rv, q1⟩
end
end L2
/-! PL, part h: exceptions. -/
namespace PL
open PySem PySem.Spec PyProof.Rows L2
theorem bt_ValueError : bootBuiltins "ValueError" = some (.type "ValueError") := by decide +kernel
/-! ### raise -/
/-- raise x(e), x's only field f -/
def sRaise (x f : Str) (fe : EM) : SM := fun env st => sOf (fe env st) env fun v st1 => .err env x (some [(f, v)]) st1
section
variable {X : Cx} {W : WX} {C fI : Addr} {x f qual : Str} {a : Expr} {fe : EM} {p pos pos2 : Pos} {k : Nat}
theorem ms_raise (hc : X.calm = true) (tk : Takes X W) (T : PLX.XTxt X.prog X.K X.mg x C fI f qual) (hr : Room (k + 1) X.A) (ha : ME X W a fe) (hg : Gl X x := by rfl) (hdb : (x == ("__debug__" : Str)) = false := by decide)
    (he : starEach (a :: []) X.env = (false, eval a X.env) :: starEach [] X.env := by rfl) (hpl : (backTo pos (starEach [] X.env)).any (·.1) = false := by rfl) :
    MS X W (.Raise (some (.Call (.Name x p) [a] [] pos)) none pos2) (sRaise x f fe) := by
  refine psI (ps_raise hc tk (pmk_x T hr (pa_cons ha pa_nil he) hg hdb he hpl)) ?_
  rintro D σ H ⟨ω, st, env, wd, re, h⟩
  refine ⟨ω, st, env, wd, re, (h.bind (Rel := RV X.K) re).mono ?_⟩
  rintro y H1 ⟨ω1, st1, v, e1, wd1, r1, h1⟩
  refine ⟨y, rfl, fun d hd => ?_⟩
  have nF : ω1.F d = none := wd1.fresh hd
  have nρ : d ∉ ω1.ρ := fun m => by
    obtain ⟨u, q⟩ := wd1.there m
    rw [hd] at q; cases q
  have x1 : Ext ω1 H1 ω1 (upd H1 d (.xd [(f, y)])) := by
    refine ⟨.refl _, fun b o e _ => ?_, fun b z => ?_, fun b z => .inl z, fun b m => .inl m⟩
    · rw [upd_ne (ne_of_none e hd)]; exact e
    · by_cases hb : b = d
      · subst hb; rw [upd_same]; simp
      · rw [upd_ne hb]; exact z
  exact h1 ω1 _ σ (some d) (.ref C) x1 (wd1.other nF nρ) (re.mono e1.le) T.gC ⟨d, _, rfl, hd, upd_same, nF, nρ, rfl, .cons r1 .nil⟩
/-- x(e).f -/
theorem me_mkFld (T : PLX.XTxt X.prog X.K X.mg x C fI f qual) (hr : Room (k + 1) X.A) (ha : ME X W a fe) (hg : Gl X x := by rfl) (hdb : (x == ("__debug__" : Str)) = false := by decide)
    (he : starEach (a :: []) X.env = (false, eval a X.env) :: starEach [] X.env := by rfl) (hpl : (backTo pos (starEach [] X.env)).any (·.1) = false := by rfl)
    (hb : attributeBase (.Call (.Name x p) [a] [] pos) f X.env (eval (.Call (.Name x p) [a] [] pos) X.env) = eval (.Call (.Name x p) [a] [] pos) X.env := by rfl) :
    ME X W (.Attribute (.Call (.Name x p) [a] [] pos) f pos2) fe := pe_mkFld T hr ha hg hdb he hpl hb
end
/-! ### defs that raise -/
section
variable {P : Program} {w : World} {K : PySem.W.Frag} {mg : Str → Option Value} {base : Heap}
theorem okPX {x qual : Str} {st : Stmt} {f : Addr} {fd : FuncData} {N ps : List Str} {k : Nat} {fm : SM} (F : Fun K x qual st f fd) (S : FnScope N ps (defScope st))
    (hbody : ∀ (cdv : Value) (A : Around) (outer : List Env) (s : Shared) (H : Hp) (E : XK), Room k (A.deeper (envOfC qual (defScope st) s.heap.objs.size f cdv)) →
      MB (cxOf (L2.CX P w) P w K mg base N qual (defScope st) f cdv A outer s H E) (fun cls d _ H => E cls d H) (defBody st) fm) :
    FnOk P w K mg base (L2.CX P w) (k + 1) f fd ps (spP ⟨K, mg⟩ ps.length (runBody N.length fm)) := by
  refine F.okX S (fun vs H Q E h => spP_len h) fun cdv A outer s H vs Q E hr h => ⟨_, hbody cdv A outer s H E hr, ?_⟩
  have hl := spP_len h
  obtain ⟨ω, s0, args, wd, r, h⟩ := h
  unfold guardN at h
  rw [if_pos (by rw [r.length]; exact hl)] at h
  refine ⟨ω, s0, args.map some ++ List.replicate (N.length - args.length) none, wd, ?_, ?_⟩
  · unfold L2.start
    rw [r.length]
    exact r.rep_append _
  · have h : After ⟨K, mg⟩ E ω H (runBody N.length fm args s0) (RV K) Q := h
    unfold runBody at h
    split at h
    · rename_i q; rw [q]
      exact fun ω' H' σ' x w r => h ω' H' .non x w .non
    · rename_i q; rw [q]
      exact fun ω' H' y x w r => h ω' H' y x w r
    · rename_i q; rw [q]
      exact fun ω' H' σ' d cls x w r m y => h ω' H' d cls x w m y
    · exact False.elim h
structure HasX (P : Program) (w : World) (K : PySem.W.Frag) (mg : Str → Option Value) (base : Heap) (x : Str) (ps : List Str) (k : Nat) (m : List PV → Store → Res PV) : Prop where
  ex : ∃ f fd, FnOk P w K mg base (L2.CX P w) k f fd ps (spP ⟨K, mg⟩ ps.length m) ∧ mg x = some (.ref f) ∧ PySem.W.keepIn K (.ref f) = true ∧ Binds K fd ps [] ∧ FdAt K f fd
theorem hasX_of {x : Str} {st : Stmt} {N ps : List Str} {k : Nat} {fm : SM} (d : DefOf K mg x st ps) (S : FnScope N ps (defScope st))
    (hbody : ∀ {f : Addr} (cdv : Value) (A : Around) (outer : List Env) (s : Shared) (H : Hp) (E : XK), Room k (A.deeper (envOfC x (defScope st) s.heap.objs.size f cdv)) →
      MB (cxOf (L2.CX P w) P w K mg base N x (defScope st) f cdv A outer s H E) (fun cls d _ H => E cls d H) (defBody st) fm) : HasX P w K mg base x ps (k + 1) (runBody N.length fm) := by
  obtain ⟨f, fd, F, hm, hb⟩ := d.ex
  exact ⟨f, fd, okPX F S fun cdv A outer s H E hr => hbody cdv A outer s H E hr, hm, F.kp, hb, .of F⟩
end
/-- a call of a def that may raise -/
def eCallX (n : Nat) (m : List PV → Store → Res PV) (fs : AM) : EM := eArgs (guardN n m) fs
section
variable {X : Cx} {W : WX} {x : Str} {p pos : Pos} {e : Expr} {es : List Expr} {fs : AM} {ps : List Str} {k : Nat} {m : List PV → Store → Res PV}
theorem me_callX {n : Nat} (tk : Takes X W) (h : HasX X.prog X.w X.K X.mg X.base x ps k m) (hr : Room k X.A) (ha : MA X W (e :: es) fs) (hn : ps.length = n := by rfl) (hg : Gl X x := by rfl) (hdb : (x == ("__debug__" : Str)) = false := by decide)
    (he : starEach (e :: es) X.env = (false, eval e X.env) :: starEach es X.env := by rfl) (hpl : (backTo pos (starEach es X.env)).any (·.1) = false := by rfl) :
    ME X W (.Call (.Name x p) (e :: es) [] pos) (eCallX n m fs) := by
  subst hn
  obtain ⟨f, fd, F, hm, hk, hb, _⟩ := h.ex
  refine peI (pe_callS F hr hg hm hk hb (fun σ => passAt tk σ) ha hdb he hpl) ?_
  rintro σ H Q ⟨ω, st, env, wd, re, h⟩
  refine ⟨ω, st, env, wd, re, (After.bind (Rel := RL X.K) h).mono ?_⟩
  rintro xs H1 ⟨ω1, st1, vs, e1, wd1, r1, h1⟩
  exact ⟨ω1, st1, vs, wd1, r1, h1⟩
end
/-! ### try .. except x as n -/
def unsetR (i : Nat) : SR → SR
  | .nx env st => .nx (env.set i none) st
  | .bk env st => .bk (env.set i none) st
  | .ct env st => .ct (env.set i none) st
  | .rt v st => .rt v st
  | _ => .stuck
open Classical in
/-- what the suite does, whatever the addresses of the error and of its dict -/
noncomputable def anyAd (r : Nat → Nat → SR) : SR := if ∀ a d, r a d = r 0 0 then r 0 0 else .stuck
noncomputable def sTry (i : Nat) (x : Str) (fb : SM) (fs : Nat → Nat → SM) : SM := fun env st => match fb env st with
  | .err env' n (some fl) st' => if n = x then anyAd fun a d => unsetR i (fs a d (env'.set i (some (.exc a d (fl.map (·.1)) (fl.map (·.2))))) st') else .stuck
  | .err _ _ none _ => .stuck
  | r => r
theorem Wd.freezeX {K : PySem.W.Frag} {ω₀ ω : Wo} {H₀ H : Hp} {p : Addr} {o : HO} (x : Ext ω₀ H₀ ω H) (n0 : H₀ p = none) (e : H p = some o) (nF : ω.F p = none) : Ext ω₀ H₀ (ω.fz p o) H := by
  refine ⟨x.le.trans (Wo.fz_le nF), x.oth, x.live, fun b z => ?_, x.nρ⟩
  by_cases hb : b = p
  · subst hb; exact .inr n0
  · have z : upd ω.F p o b ≠ none := z
    rw [upd_ne hb] at z
    exact x.nF b z
section
variable {X : Cx} {W : WX} {x n : Str} {C : Addr} {i : Nat} {body suite : List Stmt} {b₀ : Stmt} {np pos pos' : Pos} {fb : SM} {fs : Nat → Nat → SM}
theorem ms_try (hs : X.stack = X.env :: X.outer) (hf : X.env.frame = some X.env.locals) (hN : X.N.Nodup) (hi : X.N[i]? = some n) (hln : X.env.kindOf n = some .local) (hc : Names X x (.ref C)) (hm : X.mg x = some (.ref C)) (hte : PySem.W.exmOne X.K (.ref C) (.ref C) = some true)
    (hb : ∀ (W : WX) (pn : List (Addr × Obj)) (xe : Value → Shared → Prop), Takes (X.tr pn xe) W → MB (X.tr pn xe) W body fb)
    (hsu : ∀ (a : Addr) (oe : Obj) (d : Addr) (pn : List (Addr × Obj)), Zc (.ref C) (some d) oe → (∃ vs, oe.data = .fields vs) → MB (X.suite a ((a, oe) :: pn)) W0 (b₀ :: suite) (fs a d)) :
    MS X W (.Try body [.ExceptHandler (some (.Name x np)) (some n) (b₀ :: suite) pos'] [] [] pos) (sTry i x fb fs) := by
  refine psI (ps_try_as (tb := fun W => tS X W fb) (ts := fun a cls d D σ H => ∃ dd : Addr, cls = .ref C ∧ d = some dd ∧ tS X W0 (fs a dd) D σ H) (Wout := fun _ _ _ _ => False) hs hf hN hi hln hc takes0
    (fun W pn xe tk _ => hb W pn xe tk) (fun a oe cls d pn hz hf => ⟨fun pins s σ H D I h => ?_⟩)) ?_
  · obtain ⟨dd, rfl, rfl, h⟩ := h
    exact (hsu a oe dd pn hz hf).run pins s σ H D I h
  rintro D σ H ⟨ω, st, env, wd, re, h⟩
  refine ⟨ω, st, env, wd, re, ?_⟩
  unfold sTry at h
  split at h
  · rename_i env' n' fl st' q
    rw [q]
    split at h
    · rename_i en
      subst en
      unfold anyAd at h
      split at h
      · rename_i all
        intro ω' H' σ' d cls x1 w1 r1 m1 xr
        rw [hm] at m1
        cases m1
        obtain ⟨p, vs, rfl, n0, ep, nF, nρ, ens, rv⟩ := xr
        refine ⟨true, hte, fun _ a na => ⟨p, rfl, rfl, ω'.fz p (.xd vs), st', env'.set i (some (.exc a p (fl.map (·.1)) (fl.map (·.2)))), w1.freeze ep nF nρ, ?_, ?_⟩, fun z => nomatch z⟩
        · have le := Wo.fz_le (o := .xd vs) nF
          exact (r1.mono le).set (.exc upd_same ens.symm (rv.mono le)) i
        · have h : AfterS X W ω H (unsetR i (fs a p (env'.set i (some (.exc a p (fl.map (·.1)) (fl.map (·.2))))) st')) D := by
            have e := all a p
            dsimp only at e
            rw [e]
            exact h
          have x2 := Wd.freezeX (K := X.K) x1 n0 ep nF
          cases q2 : fs a p (env'.set i (some (.exc a p (fl.map (·.1)) (fl.map (·.2))))) st' with
          | nx e2 s2 => rw [q2] at h; exact fun ω3 H3 σ3 x w r => h ω3 H3 (σ3.set i none) (x2.trans x) w (r.unset i)
          | bk e2 s2 => rw [q2] at h; exact fun ω3 H3 σ3 x w r => h ω3 H3 (σ3.set i none) (x2.trans x) w (r.unset i)
          | ct e2 s2 => rw [q2] at h; exact fun ω3 H3 σ3 x w r => h ω3 H3 (σ3.set i none) (x2.trans x) w (r.unset i)
          | rt v s2 => rw [q2] at h; exact fun ω3 H3 y x w r => h ω3 H3 y (x2.trans x) w r
          | err e2 n2 f2 s2 => rw [q2] at h; exact False.elim h
          | stuck => rw [q2] at h; exact False.elim h
      · exact False.elim h
    · exact False.elim h
  · exact False.elim h
  · rename_i r q1 q2
    cases q3 : fb env st with
    | nx e2 s2 => rw [q3] at h; exact h
    | bk e2 s2 => rw [q3] at h; exact h
    | ct e2 s2 => rw [q3] at h; exact h
    | rt v s2 => rw [q3] at h; exact h
    | err e2 n2 f2 s2 =>
      cases f2 with
      | none => exact absurd q3 (q2 _ _ _)
      | some fl => exact absurd q3 (q1 _ _ _ _)
    | stuck => rw [q3] at h; exact False.elim h
end
/-! ### within the suite: isinstance(e, ..), e.f -/
def eIsE (a d : Nat) (b : Bool) (fe : EM) : EM := fun env st => (fe env st).bind fun v st1 => match v with
  | .exc a' d' _ _ => if a' = a ∧ d' = d then .ok (.bl b) st1 else .stuck
  | _ => .stuck
def eXf (a d : Nat) (f : Str) (fe : EM) : EM := fun env st => (fe env st).bind fun v st1 => match v with
  | .exc a' d' ns xs => if a' = a ∧ d' = d then match (ns.zip xs).lookup f with
    | some y => .ok y st1
    | none => .stuck
    else .stuck
  | _ => .stuck
/-- what isinstance asks of the error's class -/
structure IsC (K : PySem.W.Frag) (C : Addr) : Prop where
  hcl : (PySem.W.clsIn K C).isSome = true
  hg : PySem.W.findIn K (.ref C) "__getattribute__" = some (some (.builtin "BaseException.__getattribute__"))
  hk : PySem.W.findIn K (.ref C) "__getattr__" = some none
  hs : PySem.W.subIn K (.ref C) (.type "BaseException") = some true
  ha : PySem.W.findIn K (.ref C) "__class__" = some (some (.builtin "object.__class__"))
  hn : PySem.W.specialIn K (.builtin "object.__class__") "__get__" = some (some (.builtin "getset_descriptor.__get__"))
  ht : PySem.W.takesIn K (.builtin "object.__class__") = some true
  hm : PySem.W.mroIn K C (.type "object") = some true
def rIsD (K : PySem.W.Frag) (C a d : Addr) : List V → Hp → VK → Prop := fun xs H Q => ∃ (c : V) (cv : Value) (b : Bool) (fs : List (Str × V)), xs = [.ref a, c] ∧ H d = some (.xd fs) ∧ (∀ u, RelV c u → u = cv) ∧ PySem.W.kitOne K (.ref C) cv = some b ∧ Q (.bl b) H
def rIsDT (K : PySem.W.Frag) (C a d : Addr) : List V → Hp → VK → Prop := fun xs H Q => ∃ (tp : Addr) (cs : List V) (ws : List Value) (b : Bool) (fs : List (Str × V)), xs = [.ref a, .ref tp] ∧ H d = some (.xd fs) ∧ H tp = some (.tup cs) ∧ (∀ us, Vals cs us → us = ws) ∧ PySem.W.kitAny K (.ref C) ws = some b ∧ Q (.bl b) H
section
variable {X : Cx} {a d C : Addr} {oe : Obj} {pn : List (Addr × Obj)}
theorem inst_of {pins : List (Addr × Obj)} {σ : L2.St} {H : Hp} {s : Shared} (hz : Zc (.ref C) (some d) oe) (hf : ∃ vs, oe.data = .fields vs) (I : Inv (X.suite a ((a, oe) :: pn)) pins σ H s) {fs : List (Str × V)} (e : H d = some (.xd fs)) : ∃ od, PySem.W.InstAt s.heap a oe C (some od) := by
  obtain ⟨hget, _⟩ := I.pin (a, oe) (List.mem_append.mpr (.inl List.mem_cons_self))
  obtain ⟨vs, hv⟩ := hf
  have hx : ObjOk X.prog X.w H s.heap d (.xd fs) := I.hok d _ e
  obtain ⟨mA, hns, hr⟩ := hx
  obtain ⟨od, ho, hl⟩ := lookIn_ns hns
  exact ⟨od, hget, hz.1, by unfold PySem.W.notCls; rw [hv] <;> rfl, by rw [hz.2]; exact ho⟩
theorem call_isD (T : IsC X.K C) (hz : Zc (.ref C) (some d) oe) (hf : ∃ vs, oe.data = .fields vs) : CallR (X.suite a ((a, oe) :: pn)) (.builtin "isinstance") (rIsD X.K C a d) := by
  intro pins s σ H xs us Q I r h
  obtain ⟨c, cv, b, fs, rfl, ed, hcv, e, q⟩ := h
  obtain ⟨u1, u2, rfl, r1, r2⟩ := vals2 r
  cases (show u1 = Value.ref a from r1)
  have ec := hcv _ r2
  subst ec
  obtain ⟨od, J⟩ := inst_of hz hf I ed
  exact PySem.W.kia_one (PySem.W.kitx_exc T.hcl T.hg T.hk T.hs T.ha T.hn T.ht T.hm) I.kIn J e (fun z => nomatch z) fun tk => ⟨.bl b, H, I.kept (t' := tk) fun _ _ z => z, rfl, q⟩
theorem call_isDT (T : IsC X.K C) (hz : Zc (.ref C) (some d) oe) (hf : ∃ vs, oe.data = .fields vs) : CallR (X.suite a ((a, oe) :: pn)) (.builtin "isinstance") (rIsDT X.K C a d) := by
  intro pins s σ H xs us Q I r h
  obtain ⟨tp, cs, ws, b, fs, rfl, ed, hT, hws, e, q⟩ := h
  obtain ⟨u1, u2, rfl, r1, r2⟩ := vals2 r
  cases (show u1 = Value.ref a from r1)
  cases (show u2 = Value.ref tp from r2)
  obtain ⟨od, J⟩ := inst_of hz hf I ed
  obtain ⟨_, its, rv, o, h1, h2, n, h3⟩ := (show ObjOk X.prog X.w H s.heap tp (.tup cs) from I.hok tp _ hT)
  have e3 := hws _ rv
  subst e3
  obtain ⟨oc, od', dt, sl⟩ := o
  simp only at h2 h3
  subst h2 h3
  exact PySem.W.kia_tup (PySem.W.kitx_exc T.hcl T.hg T.hk T.hs T.ha T.hn T.ht T.hm) I.kIn J h1 e (fun z => nomatch z) fun tk => ⟨.bl b, H, I.kept (t' := tk) fun _ _ z => z, rfl, q⟩
end
theorem lookup_rep {K : PySem.W.Frag} {ω : Wo} {f : Str} : ∀ {fs : List (Str × V)} {xs : List PV} {y : PV}, Reps K ω xs (fs.map (·.2)) → ((fs.map (·.1)).zip xs).lookup f = some y → ∃ v, fs.lookup f = some v ∧ Rep K ω y v
  | [], _, y, .nil, e => by simp at e
  | (g, v) :: fs, _, y, .cons r t, e => by
    simp only [List.map_cons, List.zip_cons_cons, List.lookup_cons] at e ⊢
    by_cases h : (f == g) = true
    · rw [h] at e ⊢
      simp only [Option.some.injEq] at e
      subst e
      exact ⟨v, rfl, r⟩
    · have h : (f == g) = false := by simpa using h
      rw [h] at e ⊢
      exact lookup_rep t e
section
variable {X : Cx} {W : WX} {a d C : Addr} {oe : Obj} {pn : List (Addr × Obj)} {e : Expr} {fe : EM} {y : Str} {p p2 pos : Pos} {b : Bool}
theorem me_isE {u : Value} {v : V} (T : IsC X.K C) (hz : Zc (.ref C) (some d) oe) (hf : ∃ vs, oe.data = .fields vs) (hi : X.mg "isinstance" = none) (hv : bootBuiltins "isinstance" = some (.builtin "isinstance"))
    (hk : PySem.W.kitOne X.K (.ref C) u = some b) (hR : ∀ u', RelV v u' → u' = u) {c : Expr} (hcl : ∀ W, ME (X.suite a ((a, oe) :: pn)) W c (eC (.con v))) (he : ME (X.suite a ((a, oe) :: pn)) W e fe) (hg : Gl (X.suite a ((a, oe) :: pn)) "isinstance" := by rfl)
    (hs1 : starEach (e :: [c]) X.env = (false, eval e X.env) :: starEach [c] X.env := by rfl) (hs2 : starEach (c :: []) X.env = (false, eval c X.env) :: starEach [] X.env := by rfl) (hpl : (backTo pos (starEach [c] X.env)).any (·.1) = false := by rfl) :
    ME (X.suite a ((a, oe) :: pn)) W (.Call (.Name "isinstance" p) [e, c] [] pos) (eIsE a d b fe) := by
  refine peI (pe_callB (call_isD T hz hf) hg hi hv (pa_cons he (pa_cons (hcl W) pa_nil hs2) hs1) (by decide) (by decide) hs1 hpl) ?_
  rintro σ H Q ⟨ω, st, env, wd, re, h⟩
  refine ⟨ω, st, env, wd, re, (After.bind (Rel := RV X.K) h).mono ?_⟩
  rintro x H1 ⟨ω1, st1, pv, e1, wd1, r1, h1⟩
  split at h1
  · rename_i a' d' ns xs
    split at h1
    · rename_i hh
      obtain ⟨rfl, rfl⟩ := hh
      cases r1 with
      | exc ed en rr =>
        rename_i fs
        refine ⟨ω1, st1, env, wd1, re.mono e1.le, ?_⟩
        intro ω2 H2 z e2 wd2 r2
        cases r2
        exact ⟨v, u, b, fs, rfl, wd2.sub _ _ (e2.le.fz _ _ ed), hR, hk, After.shift h1 e2 ω2 H2 (.bl b) (.refl _ _) wd2 (.bl b)⟩
    · exact False.elim h1
  · exact False.elim h1
theorem vals_refs : ∀ {as : List Addr} {us : List Value}, Vals (as.map V.ref) us → us = as.map Value.ref
  | [], _, r => by cases r; rfl
  | a :: as, _, r => by
    cases r with
    | cons r t =>
      rename_i u us
      have e : u = Value.ref a := r
      rw [e, vals_refs t]
      rfl
/-- names of classes as a tuple's items -/
def aCs (cs : List V) : AM := fun _ st => .ok (cs.map .con) st
theorem ma_cs_nil {X : Cx} {W : WX} : MA X W [] (aCs []) := paI pa_nil fun σ H Q ⟨ω, st, env, wd, re, h⟩ => h.ok_here wd .nil
theorem ma_cs_cons {X : Cx} {W : WX} {v : V} {cs : List V} {es : List Expr} {u : Value} (hg : Gl X y) (hm : X.mg y = some u) (r : RelV v u) (t : MA X W es (aCs cs)) (hd : (y == ("__debug__" : Str)) = false := by decide)
    (hs : starEach (.Name y pos :: es) X.env = (false, eval (.Name y pos) X.env) :: starEach es X.env := by rfl) : MA X W (.Name y pos :: es) (aCs (v :: cs)) := by
  refine paI (pa_cons (pe_glob (pos := pos) hg hm r hd) t hs) ?_
  rintro σ H Q ⟨ω, st, env, wd, re, h⟩
  refine ⟨ω, st, env, wd, re, fun ω1 H1 xs e1 w1 r1 => ?_⟩
  exact h ω1 H1 (v :: xs) e1 w1 (.cons (.con v) r1)
theorem me_isET {es : List Expr} {cs : List V} {us : List Value} {k2 : Nat} (T : IsC X.K C) (hz : Zc (.ref C) (some d) oe) (hf : ∃ vs, oe.data = .fields vs) (hi : X.mg "isinstance" = none) (hv : bootBuiltins "isinstance" = some (.builtin "isinstance"))
    (hk : PySem.W.kitAny X.K (.ref C) us = some b) (hR : ∀ us', Vals cs us' → us' = us) (hlen : cs.length ≤ 1000) (hcl : ∀ W, MA (X.suite a ((a, oe) :: pn)) W es (aCs cs)) (he : ME (X.suite a ((a, oe) :: pn)) W e fe) (hg : Gl (X.suite a ((a, oe) :: pn)) "isinstance" := by rfl)
    (hs1 : starEach (e :: [.Tuple es k2 p2]) X.env = (false, eval e X.env) :: starEach [.Tuple es k2 p2] X.env := by rfl) (hs2 : starEach (.Tuple es k2 p2 :: []) X.env = (false, eval (.Tuple es k2 p2) X.env) :: starEach [] X.env := by rfl) (hpl : (backTo pos (starEach [.Tuple es k2 p2] X.env)).any (·.1) = false := by rfl) :
    ME (X.suite a ((a, oe) :: pn)) W (.Call (.Name "isinstance" p) [e, .Tuple es k2 p2] [] pos) (eIsE a d b fe) := by
  refine peI (pe_callB (call_isDT T hz hf) hg hi hv (pa_cons he (pa_cons (pe_tup (hcl W)) pa_nil hs2) hs1) (by decide) (by decide) hs1 hpl) ?_
  rintro σ H Q ⟨ω, st, env, wd, re, h⟩
  refine ⟨ω, st, env, wd, re, (After.bind (Rel := RV X.K) h).mono ?_⟩
  rintro x H1 ⟨ω1, st1, pv, e1, wd1, r1, h1⟩
  split at h1
  · rename_i a' d' ns xs
    split at h1
    · rename_i hh
      obtain ⟨rfl, rfl⟩ := hh
      cases r1 with
      | exc ed en rr =>
        rename_i fs
        refine ⟨ω1, st1, env, wd1, re.mono e1.le, ?_⟩
        intro ω2 H2 zs e2 wd2 r2
        have ez : ∀ {cs : List V} {zs : List V}, Reps X.K ω2 (cs.map .con) zs → zs = cs := by
          intro cs
          induction cs with
          | nil => intro zs r; cases r; rfl
          | cons c cs ih => intro zs r; cases r with
            | cons r t => cases r; rw [ih t]
        have ez := ez r2
        subst ez
        refine ⟨by rw [sizeLine_eq]; omega, fun tp htp => ?_⟩
        obtain ⟨w3, x3⟩ := wd2.fz htp (.tup zs)
        have x23 := e2.trans x3
        exact ⟨tp, zs, us, b, fs, rfl, w3.sub _ _ (x23.le.fz _ _ ed), upd_same, hR, hk, After.shift h1 x23 _ _ (.bl b) (.refl _ _) w3 (.bl b)⟩
    · exact False.elim h1
  · exact False.elim h1
theorem me_xf {f : Str} (T : XfC X.K C) (hno : PySem.W.findIn X.K (.ref C) f = some none) (hz : Zc (.ref C) (some d) oe) (hf : ∃ vs, oe.data = .fields vs) (he : ME (X.suite a ((a, oe) :: pn)) W e fe)
    (hb : attributeBase e f X.env (eval e X.env) = eval e X.env := by rfl) : ME (X.suite a ((a, oe) :: pn)) W (.Attribute e f pos) (eXf a d f fe) := by
  refine peI (pe_xf T hno hz hf he hb) ?_
  rintro σ H Q ⟨ω, st, env, wd, re, h⟩
  refine ⟨ω, st, env, wd, re, (After.bind (Rel := RV X.K) h).mono ?_⟩
  rintro x H1 ⟨ω1, st1, pv, e1, wd1, r1, h1⟩
  split at h1
  · rename_i a' d' ns xs
    split at h1
    · rename_i hh
      obtain ⟨rfl, rfl⟩ := hh
      split at h1
      · rename_i yv q
        cases r1 with
        | exc ed en rr =>
          rename_i fs
          subst en
          obtain ⟨v, lv, rv⟩ := lookup_rep rr q
          exact ⟨rfl, rfl, d', fs, v, rfl, wd1.sub _ _ ed, lv, h1.ok_here wd1 rv⟩
      · exact False.elim h1
    · exact False.elim h1
  · exact False.elim h1
end
end PL
/-! PL, the end: from a law's evaluator to the law. -/
namespace PL
open PySem PySem.Spec PyProof.Rows L2
theorem defOf_mk {K : PySem.W.Frag} {h : Heap} {mg : Str → Option Value} {x : Str} {st : Stmt} {ps : List Str} {f : Addr} {od an : Option Addr} {sl : Array (Option Value)} {oc kV dc pm cd ct : Value} (X : K.In h) (G : h.Ns mainGlobals mg)
    (a : PySem.W.nsIn K mainGlobals x = some (some (.ref f))) (l : K.lookup f = some ⟨oc, od, .func (PySem.W.fnOf x x (defArgs st) (defBody st) (defScope st) .none kV dc pm an cd ct), sl⟩) (c : PySem.W.codeIn K cd x = true) (k : PySem.W.keepIn K (.ref f) = true)
    (hb : ∀ (kV doc pm : Value) (an : Option Addr) (cdv ct : Value) (us : List Value), us.length = ps.length → bindArgs (PySem.W.fnOf x x (defArgs st) (defBody st) (defScope st) .none kV doc pm an cdv ct) ⟨us, []⟩ = pure (ps.zip us)) : DefOf K mg x st ps := by
  have F := fun_mk (st := st) l c k
  exact ⟨_, _, F, PySem.W.mg_of X G a, F.binds hb⟩
/-- a law's promise: for every script -/
def spScr (K : PySem.W.Frag) (m : List PV → Store → Res PV) : Sp := fun vs H Q _ => ∃ (a : Addr) (ns : List Int), vs = [.ref a] ∧ SqL K H a (ns.map V.int) ∧ ns.length ≤ 63 ∧ ∀ H', Q (.bl true) H'
theorem reps_int {K : PySem.W.Frag} {ω : Wo} : ∀ ns : List Int, Reps K ω (ns.map PV.int) (ns.map V.int)
  | [] => .nil
  | n :: ns => .cons (.int n) (reps_int ns)
theorem FnOk_scr {P : Program} {w : World} {K : PySem.W.Frag} {mg : Str → Option Value} {base : Heap} {k : Nat} {f : Addr} {fd : FuncData} {m : List PV → Store → Res PV} (F : FnOk P w K mg base CX0 k f fd ["script"] (spP ⟨K, mg⟩ 1 (nE m)))
    (hm : ∀ ns : List Int, ns.length ≤ 63 → ∃ s, m [.frz (ns.map .int)] [] = .ok (.bl true) s) : FnOk P w K mg base CX0 k f fd ["script"] (spScr K m) := by
  have i : ∀ vs H Q E, spScr K m vs H Q E → spP ⟨K, mg⟩ 1 (nE m) vs H Q E := by
    rintro vs H Q E ⟨a, ns, rfl, hS, hl, hQ⟩
    obtain ⟨s, e⟩ := hm ns hl
    refine ⟨⟨H, []⟩, [], [.frz (ns.map .int)], ⟨Same.refl _, rfl, List.nodup_nil, fun a m => by simp at m, fun l a o e => by simp at e⟩, .cons (.frz hS (reps_int ns)) .nil, ?_⟩
    show After _ E _ H (guardN 1 (nE m) [.frz (ns.map .int)] []) _ Q
    unfold guardN
    rw [if_pos (show ([PV.frz (ns.map .int)] : List PV).length = 1 from rfl)]
    show After _ E _ H (noErr (m [.frz (ns.map .int)] [])) _ Q
    rw [e]
    intro ω' H' x _ _ r
    cases r
    exact hQ H'
  exact ⟨fun vs H Q E h => F.1 vs H Q E (i _ _ _ _ h), fun A outer s H args us vs Q E hr e0 hb r hsp => F.2 A outer s H args us vs Q E hr e0 hb r (i _ _ _ _ hsp)⟩
theorem walk_scr {l : PySem.W.OpenLaw} {k : Nat} {m : List PV → Store → Res PV} {q : Program} {loose : List Str} {XP : (Str → Option Value) → Heap → Prop} {YP : World → Heap → Prop} {d : DefRec} {K : Params → PySem.W.Frag} (hn : l.most = some 63) (hdf : d.params.defaults = []) (hr : Room k callerA)
    (hY : ∀ (w : World) (h : Heap), YP w h → (K w.params).In h)
    (F : ∀ (w : World) (mg : Str → Option Value) (fa : Addr) (h : Heap), (K w.params).In h → h.Ns mainGlobals mg → mg d.name = some (.ref fa) →
      ∃ fd : FuncData, (∀ (s : Shared) (u : Value), BindsTo s fd ⟨[u], []⟩ [("script", u)]) ∧ ∀ base : Heap, (K w.params).In base → base.Ns mainGlobals mg → FnOk l.prog w (K w.params) mg base CX0 k fa fd ["script"] (spScr (K w.params) m)) :
    PySem.W.WalkO q loose XP YP l.row.toRowW d [] (fun f vs => PySem.call f vs) :=
  L2.walk_of (n := 63) (k := k) (x := "script") (CX := fun _ => CX0) (sp := fun w => spScr (K w.params) m) hn (by decide) hdf hr hY F (fun _ _ a ns hl _ hS => ⟨a, ns, rfl, hS, hl, fun _ => rfl⟩) fun _ _ _ _ _ z => z
end PL
/-! PL, part m: what an evaluator does, by wishes. -/
namespace PL
open PySem PySem.Spec PyProof.Rows L2
inductive Sat {α : Type} (r : Res α) (Q : α → Store → Prop) : Prop where
  | mk (a : α) (st : Store) (e : r = .ok a st) (q : Q a st)
inductive SatS (r : SR) (N : PEnv → Store → Prop) (R : PV → Store → Prop) : Prop where
  | nx (env : PEnv) (st : Store) (e : r = .nx env st) (q : N env st)
  | rt (v : PV) (st : Store) (e : r = .rt v st) (q : R v st)
section
variable {α β : Type} {Q Q' : α → Store → Prop} {N N' : PEnv → Store → Prop} {R R' : PV → Store → Prop} {env : PEnv} {st : Store}
theorem Sat.mono {r : Res α} (h : Sat r Q) (i : ∀ a s, Q a s → Q' a s) : Sat r Q' := by
  obtain ⟨a, s, e, q⟩ := h
  exact ⟨a, s, e, i _ _ q⟩
theorem SatS.mono {r : SR} (h : SatS r N R) (i : ∀ e s, N e s → N' e s) (j : ∀ v s, R v s → R' v s) : SatS r N' R' := by
  rcases h with ⟨a, s, e, q⟩ | ⟨a, s, e, q⟩
  · exact .nx a s e (i _ _ q)
  · exact .rt a s e (j _ _ q)
theorem sat_of {r : Res α} {a : α} {s : Store} (e : r = .ok a s) : Sat r Q = Q a s := propext ⟨fun ⟨b, t, e', q⟩ => (by
    rw [e] at e'
    cases e'
    exact q), fun q => ⟨a, s, e, q⟩⟩
theorem sat_ok {a : α} : Sat (.ok a st) Q = Q a st := sat_of rfl
theorem sat_stuck : Sat (.stuck : Res α) Q = False := propext ⟨fun ⟨b, t, e', q⟩ => (by cases e'), False.elim⟩
theorem sat_err {n f} : Sat (.err n f st : Res α) Q = False := propext ⟨fun ⟨b, t, e', q⟩ => (by cases e'), False.elim⟩
theorem ss_nx : SatS (.nx env st) N R = N env st := propext ⟨fun h => (by
    rcases h with ⟨a, s, e, q⟩ | ⟨a, s, e, q⟩
    · cases e; exact q
    · cases e), fun q => SatS.nx _ _ rfl q⟩
theorem ss_rt {v : PV} : SatS (.rt v st) N R = R v st := propext ⟨fun h => (by
    rcases h with ⟨a, s, e, q⟩ | ⟨a, s, e, q⟩
    · cases e
    · cases e; exact q), fun q => SatS.rt _ _ rfl q⟩
theorem ss_bk : SatS (.bk env st) N R = False := propext ⟨fun h => (by rcases h with ⟨a, s, e, q⟩ | ⟨a, s, e, q⟩ <;> cases e), False.elim⟩
theorem ss_ct : SatS (.ct env st) N R = False := propext ⟨fun h => (by rcases h with ⟨a, s, e, q⟩ | ⟨a, s, e, q⟩ <;> cases e), False.elim⟩
theorem ss_err {n f} : SatS (.err env n f st) N R = False := propext ⟨fun h => (by rcases h with ⟨a, s, e, q⟩ | ⟨a, s, e, q⟩ <;> cases e), False.elim⟩
theorem ss_stuck : SatS .stuck N R = False := propext ⟨fun h => (by rcases h with ⟨a, s, e, q⟩ | ⟨a, s, e, q⟩ <;> cases e), False.elim⟩
theorem sat_bind {r : Res β} {k : β → Store → Res α} : Sat (r.bind k) Q = Sat r fun b s => Sat (k b s) Q := by
  cases r with
  | ok a s => rw [sat_ok]; rfl
  | err n f s => rw [sat_err]; exact sat_err
  | stuck => rw [sat_stuck]; exact sat_stuck
theorem sat_ite {c : Prop} [Decidable c] {a b : Res α} (hc : c) (h : Sat a Q) : Sat (if c then a else b) Q := by rw [if_pos hc]; exact h
theorem sat_var {i : Nat} {v : PV} {Q : PV → Store → Prop} (e : env[i]? = some (some v)) : Sat (eVar i env st) Q = Q v st := by unfold eVar; rw [e]; exact sat_ok
theorem sat_v {i : Nat} {Q : PV → Store → Prop} : Sat (eVar i env st) Q = match env[i]? with
    | some (some v) => Q v st
    | _ => False := by
  unfold eVar
  cases env[i]? with
  | none => exact sat_stuck
  | some o => cases o with
    | none => exact sat_stuck
    | some v => exact sat_ok
theorem sat_c {v : PV} {Q : PV → Store → Prop} : Sat (eC v env st) Q = Q v st := sat_ok
theorem sat_bin {p fa fb} {Q : PV → Store → Prop} : Sat (eBin p fa fb env st) Q = Sat (fa env st) fun v s => Sat (fb env s) fun w s => Sat (p v w s) Q := by
  unfold eBin; rw [sat_bind]; simp only [sat_bind]
theorem sat_un {p fa} {Q : PV → Store → Prop} : Sat (eUn p fa env st) Q = Sat (fa env st) fun v s => Sat (p v s) Q := by unfold eUn; rw [sat_bind]
theorem sat_test {f : EM} {Q : Bool → Store → Prop} : Sat (eTest f env st) Q = Sat (f env st) fun v s => Sat (pTruth v s) Q := by unfold eTest; rw [sat_bind]
theorem sat_truth {b : Bool} {Q : Bool → Store → Prop} : Sat (pTruth (.bl b) st) Q = Q b st := sat_ok
theorem sat_and {f g : TM} {Q : Bool → Store → Prop} : Sat (tAndM f g env st) Q = Sat (f env st) fun b s => if b = true then Sat (g env s) Q else Q false s := by
  unfold tAndM; rw [sat_bind]; congr 1; funext b s; split
  · rfl
  · exact sat_ok
theorem sat_or {f g : TM} {Q : Bool → Store → Prop} : Sat (tOrM f g env st) Q = Sat (f env st) fun b s => if b = true then Q true s else Sat (g env s) Q := by
  unfold tOrM; rw [sat_bind]; congr 1; funext b s; split
  · exact sat_ok
  · rfl
theorem sat_not {f : TM} {Q : Bool → Store → Prop} : Sat (tNotM f env st) Q = Sat (f env st) fun b s => Q (!b) s := by unfold tNotM; rw [sat_bind]; congr 1; funext b s; exact sat_ok
theorem sat_yes {Q : Bool → Store → Prop} : Sat (tYesM env st) Q = Q true st := sat_ok
theorem sat_andv {f g : EM} {Q : PV → Store → Prop} : Sat (eAndV f g env st) Q = Sat (f env st) fun v s => match v with
    | .bl true => Sat (g env s) Q
    | .bl false => Q (.bl false) s
    | _ => False := by
  unfold eAndV; rw [sat_bind]; congr 1; funext v s
  cases v with
  | bl b => cases b with
    | true => rfl
    | false => exact sat_ok
  | _ => exact sat_stuck
theorem sat_notv {f : EM} {Q : PV → Store → Prop} : Sat (eNotV f env st) Q = Sat (f env st) fun v s => match v with
    | .bl b => Q (.bl (!b)) s
    | _ => False := by
  unfold eNotV; rw [sat_bind]; congr 1; funext v s
  cases v with
  | bl b => exact sat_ok
  | _ => exact sat_stuck
theorem sat_chain {p p' fa fb fc} {Q : PV → Store → Prop} : Sat (eChain p p' fa fb fc env st) Q = Sat (fa env st) fun v s => Sat (fb env s) fun w s => Sat (p v w s) fun z s => match z with
    | .bl true => Sat (fc env s) fun u s => Sat (p' w u s) Q
    | .bl false => Q (.bl false) s
    | _ => False := by
  unfold eChain; rw [sat_bind]; simp only [sat_bind]
  congr 1; funext v s; congr 1; funext w s; congr 1; funext z s
  cases z with
  | bl b => cases b with
    | true => simp only [sat_bind]
    | false => exact sat_ok
  | _ => exact sat_stuck
theorem sat_nil {Q : List PV → Store → Prop} : Sat (aNil env st) Q = Q [] st := sat_ok
theorem sat_cons {f : EM} {g : AM} {Q : List PV → Store → Prop} : Sat (aCons f g env st) Q = Sat (f env st) fun v s => Sat (g env s) fun vs s => Q (v :: vs) s := by
  unfold aCons; rw [sat_bind]; simp only [sat_bind, sat_ok]
theorem sat_args {p : List PV → Store → Res PV} {fs : AM} {Q : PV → Store → Prop} : Sat (eArgs p fs env st) Q = Sat (fs env st) fun vs s => Sat (p vs s) Q := by unfold eArgs; rw [sat_bind]
theorem sat_noErr {r : Res α} : Sat (noErr r) Q = Sat r Q := by
  cases r with
  | ok a s => rfl
  | err n f s => rw [sat_err]; exact sat_stuck
  | stuck => rfl
theorem sat_call {n : Nat} {m : List PV → Store → Res PV} {fs : AM} {Q : PV → Store → Prop} : Sat (eCall n m fs env st) Q = Sat (fs env st) fun vs s => vs.length = n ∧ Sat (m vs s) Q := by
  unfold eCall; rw [sat_args]; congr 1; funext vs s
  unfold guardN
  by_cases h : vs.length = n
  · rw [if_pos h, eq_iff_iff]; show Sat (noErr (m vs s)) Q ↔ _; rw [sat_noErr]; simp [h]
  · rw [if_neg h, sat_stuck]; simp [h]
theorem sat_callX {n : Nat} {m : List PV → Store → Res PV} {fs : AM} {Q : PV → Store → Prop} : Sat (eCallX n m fs env st) Q = Sat (fs env st) fun vs s => vs.length = n ∧ Sat (m vs s) Q := by
  unfold eCallX; rw [sat_args]; congr 1; funext vs s
  unfold guardN
  by_cases h : vs.length = n
  · rw [if_pos h, eq_iff_iff]; simp [h]
  · rw [if_neg h, sat_stuck]; simp [h]
theorem sat_meth {ty p fo fs} {Q : PV → Store → Prop} : Sat (eMeth ty p fo fs env st) Q = Sat (fo env st) fun v s => ty v s = true ∧ Sat (fs env s) fun vs s => Sat (p v vs s) Q := by
  unfold eMeth; rw [sat_bind]; congr 1; funext v s
  by_cases h : ty v s = true
  · rw [if_pos h, sat_bind]; simp [h]
  · rw [if_neg h, sat_stuck]; simp [h]
theorem sat_one {p : PV → Store → Res PV} {v : PV} {Q : PV → Store → Prop} : Sat (one p [v] st) Q = Sat (p v st) Q := rfl
theorem sat_oNone {Q : Option Int → Store → Prop} : Sat (oNone env st) Q = Q none st := sat_ok
theorem sat_oSome {f : EM} {Q : Option Int → Store → Prop} : Sat (oSome f env st) Q = Sat (f env st) fun v s => match v with
    | .int i => Q (some i) s
    | _ => False := by
  unfold oSome; rw [sat_bind]; congr 1; funext v s
  cases v with
  | int i => exact sat_ok
  | _ => exact sat_stuck
theorem sat_sl {p f l u} {Q : PV → Store → Prop} : Sat (eSl p f l u env st) Q = Sat (f env st) fun v s => Sat (l env s) fun lo s => Sat (u env s) fun hi s => Sat (p v lo hi s) Q := by
  unfold eSl; rw [sat_bind]; simp only [sat_bind]
theorem sat_tup {vs : List PV} {Q : PV → Store → Prop} : Sat (mkTup vs st) Q = (vs.length ≤ sizeLine ∧ Q (.tup vs) st) := by
  unfold mkTup
  by_cases h : vs.length ≤ sizeLine
  · rw [if_pos h, sat_ok]; simp [h]
  · rw [if_neg h, sat_stuck]; simp [h]
theorem sat_lst {vs : List PV} {Q : PV → Store → Prop} : Sat (mkLst vs st) Q = (vs.length ≤ sizeLine ∧ Q (.lst vs) st) := by
  unfold mkLst
  by_cases h : vs.length ≤ sizeLine
  · rw [if_pos h, sat_ok]; simp [h]
  · rw [if_neg h, sat_stuck]; simp [h]
theorem sat_loc {vs : List PV} {Q : PV → Store → Prop} : Sat (mkLoc vs st) Q = (vs.length ≤ sizeLine ∧ Q (.loc st.length) (st ++ [.lst vs])) := by
  unfold mkLoc
  by_cases h : vs.length ≤ sizeLine
  · rw [if_pos h, sat_ok]; simp [h]
  · rw [if_neg h, sat_stuck]; simp [h]
/-! statements -/
theorem ss_nil : SatS (sNil env st) N R = N env st := ss_nx
theorem ss_seq {f g : SM} : SatS (sSeq f g env st) N R = SatS (f env st) (fun e s => SatS (g e s) N R) R := by
  unfold sSeq
  cases f env st with
  | nx e s => rw [ss_nx]
  | rt v s => rw [ss_rt]; exact ss_rt.symm
  | bk e s => rw [ss_bk]; exact ss_bk.symm
  | ct e s => rw [ss_ct]; exact ss_ct.symm
  | err e n f s => rw [ss_err]; exact ss_err.symm
  | stuck => rw [ss_stuck]; exact ss_stuck.symm
theorem ss_of {r : Res α} {k : α → Store → SR} : SatS (sOf r env k) N R = Sat r fun a s => SatS (k a s) N R := by
  cases r with
  | ok a s => rw [sat_ok]; rfl
  | err n f s => rw [sat_err]; exact ss_err
  | stuck => rw [sat_stuck]; exact ss_stuck
theorem ss_set {i : Nat} {f : EM} : SatS (sSet i f env st) N R = Sat (f env st) fun v s => N (env.set i (some v)) s := by unfold sSet; rw [ss_of]; simp only [ss_nx]
theorem ss_expr {f : EM} : SatS (sExpr f env st) N R = Sat (f env st) fun v s => N env s := by unfold sExpr; rw [ss_of]; simp only [ss_nx]
theorem ss_ret {f : EM} : SatS (sRet f env st) N R = Sat (f env st) R := by unfold sRet; rw [ss_of]; simp only [ss_rt]
theorem ss_retN : SatS (sRetN env st) N R = R .non st := ss_rt
theorem ss_if {c : TM} {f g : SM} : SatS (sIf c f g env st) N R = Sat (c env st) fun b s => if b = true then SatS (f env s) N R else SatS (g env s) N R := by
  unfold sIf; rw [ss_of]; congr 1; funext b s; split <;> rfl
theorem ss_tg {tg : Tg} {f : EM} : SatS (sTg tg f env st) N R = Sat (f env st) fun v s => ∃ e, setTg tg v env = some e ∧ N e s := by
  unfold sTg; rw [ss_of]; congr 1; funext v s
  cases setTg tg v env with
  | none => rw [ss_stuck]; simp
  | some e => rw [ss_nx]; simp
theorem ss_par {i j : Nat} {fs : AM} : SatS (sPar i j fs env st) N R = Sat (fs env st) fun vs s => match vs with
    | [v, w] => N ((env.set i (some v)).set j (some w)) s
    | _ => False := by
  unfold sPar; rw [ss_of]; congr 1; funext vs s
  match vs with
  | [] => exact ss_stuck
  | [_] => exact ss_stuck
  | [_, _] => exact ss_nx
  | _ :: _ :: _ :: _ => exact ss_stuck
theorem ss_sub {p fo fi fv} : SatS (sSub p fo fi fv env st) N R = Sat (fv env st) fun v s => Sat (fo env s) fun o s => Sat (fi env s) fun i s => Sat (p o i v s) fun _ s => N env s := by
  unfold sSub; rw [ss_of]; simp only [ss_of, ss_nx]
theorem ss_for {it : IM} {tg : Tg} {body : SM} : SatS (sFor it tg body env st) N R = Sat (it env st) fun p s => SatS (sForL tg body p.ok p.xs env s) N R := by unfold sFor; rw [ss_of]
theorem ss_forL_nil {tg : Tg} {body : SM} {ok : Store → Prop} (h : ok st) : SatS (sForL tg body ok [] env st) N R = N env st := by unfold sForL; rw [if_pos h]; exact ss_nx
theorem ss_forL_cons {tg : Tg} {body : SM} {ok : Store → Prop} {v : PV} {r : List PV} (ho : ok st) (h : ∃ e, setTg tg v env = some e ∧ SatS (body e st) (fun e s => SatS (sForL tg body ok r e s) N R) R) : SatS (sForL tg body ok (v :: r) env st) N R := by
  obtain ⟨e, h1, h2⟩ := h
  unfold sForL
  rw [if_pos ho, h1]
  show SatS (match body e st with
      | .nx e s => sForL tg body ok r e s
      | .ct e s => sForL tg body ok r e s
      | .bk e s => .nx e s
      | .rt v s => .rt v s
      | .err e n fs s => .err e n fs s
      | .stuck => .stuck) N R
  cases q : body e st with
  | nx e' s => rw [q, ss_nx] at h2; exact h2
  | rt v s => rw [q, ss_rt] at h2; exact .rt _ _ rfl h2
  | bk e' s => rw [q, ss_bk] at h2; exact False.elim h2
  | ct e' s => rw [q, ss_ct] at h2; exact False.elim h2
  | err e' n f s => rw [q, ss_err] at h2; exact False.elim h2
  | stuck => rw [q, ss_stuck] at h2; exact False.elim h2
/-- a for by an invariant of the number of items done -/
theorem for_invC {tg : Tg} {body : SM} {ok : Store → Prop} (I : Nat → PEnv → Store → Prop) : ∀ {xs : List PV} {k : Nat} {env : PEnv} {st : Store}, I k env st →
    (∀ i v env st, xs[i]? = some v → I (k + i) env st → ∃ e, setTg tg v env = some e ∧ SatS (body e st) (I (k + i + 1)) R) →
    (∀ env st, I (k + xs.length) env st → N env st) → (∀ i env st, I i env st → ok st) → SatS (sForL tg body ok xs env st) N R
  | [], k, env, st, h0, _, hd, ho => by rw [ss_forL_nil (ho _ _ _ h0)]; exact hd env st (by simpa using h0)
  | v :: r, k, env, st, h0, hs, hd, ho => by
    obtain ⟨e, h1, h2⟩ := hs 0 v env st (by simp) (by simpa using h0)
    refine ss_forL_cons (ho _ _ _ h0) ⟨e, h1, h2.mono (fun e' s' h' => ?_) fun _ _ z => z⟩
    refine for_invC I (k := k + 1) (by simpa using h') (fun i w e s m q => ?_) (fun e s q => hd e s (by simpa [Nat.add_assoc, Nat.add_comm 1] using q)) ho
    have := hs (i + 1) w e s (by simpa using m) (by simpa [Nat.add_assoc, Nat.add_comm 1] using q)
    simpa [Nat.add_assoc, Nat.add_comm 1] using this
theorem for_invN {tg : Tg} {body : SM} {ok : Store → Prop} (I : Nat → PEnv → Store → Prop) {xs : List PV} {k : Nat} {env : PEnv} {st : Store} (h0 : I k env st)
    (hs : ∀ i v env st, xs[i]? = some v → I (k + i) env st → ∃ e, setTg tg v env = some e ∧ SatS (body e st) (I (k + i + 1)) R)
    (hd : ∀ env st, I (k + xs.length) env st → N env st) (ho : ∀ i env st, I i env st → ok st := by intros; exact True.intro) : SatS (sForL tg body ok xs env st) N R := for_invC I h0 hs hd ho
/-- a for whose invariant doesn't tell the items -/
theorem for_inv0 {tg : Tg} {body : SM} {ok : Store → Prop} (I : PEnv → Store → Prop) {xs : List PV} {env : PEnv} {st : Store} (h0 : I env st)
    (hs : ∀ v env st, v ∈ xs → I env st → ∃ e, setTg tg v env = some e ∧ SatS (body e st) I R) (hd : ∀ env st, I env st → N env st) (ho : ∀ env st, I env st → ok st := by intros; exact True.intro) : SatS (sForL tg body ok xs env st) N R :=
  for_invN (fun _ => I) (k := 0) h0 (fun i v e s m q => hs v e s (List.mem_of_getElem? m) q) (fun e s i => hd e s i) (fun _ => ho)
/-! comprehensions -/
theorem sat_comp {loc own it tg test elt} {Q : PV → Store → Prop} : Sat (eCompG loc own it tg test elt env st) Q = Sat (it env st) fun p s => Sat (compL tg test elt p.ok p.xs (wipeP env own) s []) fun ys s => Sat (fin loc ys s) Q := by
  unfold eCompG; rw [sat_bind]; simp only [sat_bind]
/-- a comprehension by an invariant: what is made so far -/
theorem comp_invC {tg : Tg} {test : TM} {elt : EM} {ok : Store → Prop} {Q : List PV → Store → Prop} (I : Nat → List PV → Store → Prop) : ∀ {xs : List PV} {k : Nat} {env : PEnv} {st : Store} {acc : List PV}, I k acc st →
    (∀ i v st acc, xs[i]? = some v → I (k + i) acc st → ∃ e, setTg tg v env = some e ∧ Sat (test e st) fun b s => if b = true then Sat (elt e s) fun y s => acc.length < sizeLine ∧ I (k + i + 1) (acc ++ [y]) s else I (k + i + 1) acc s) →
    (∀ acc st, I (k + xs.length) acc st → Q acc st) → (∀ i acc st, I i acc st → ok st) → Sat (compL tg test elt ok xs env st acc) Q
  | [], k, env, st, acc, h0, _, hd, ho => by
    unfold compL
    rw [if_pos (ho _ _ _ h0)]
    exact ⟨_, _, rfl, hd acc st (by simpa using h0)⟩
  | v :: r, k, env, st, acc, h0, hs, hd, ho => by
    obtain ⟨e, h1, h2⟩ := hs 0 v st acc (by simp) (by simpa using h0)
    unfold compL
    rw [if_pos (ho _ _ _ h0), h1]
    show Sat ((noErr (test e st)).bind _) Q
    rw [sat_bind, sat_noErr]
    have nxt : ∀ acc' s, I (k + 0 + 1) acc' s → Sat (compL tg test elt ok r env s acc') Q := fun acc' s h' => by
      refine comp_invC I (k := k + 1) (by simpa using h') (fun i w s a m q => ?_) (fun a s q => hd a s (by simpa [Nat.add_assoc, Nat.add_comm 1] using q)) ho
      have := hs (i + 1) w s a (by simpa using m) (by simpa [Nat.add_assoc, Nat.add_comm 1] using q)
      simpa [Nat.add_assoc, Nat.add_comm 1] using this
    refine h2.mono fun b s h3 => ?_
    cases b with
    | false => simpa using nxt _ _ (by simpa using h3)
    | true =>
      have h3 : Sat (elt e s) fun y s => acc.length < sizeLine ∧ I (k + 0 + 1) (acc ++ [y]) s := by simpa using h3
      show Sat (if true = true then _ else _) Q
      rw [if_pos rfl, sat_bind, sat_noErr]
      refine h3.mono fun y s2 h4 => ?_
      rw [if_pos h4.1]
      exact nxt _ _ h4.2
theorem comp_inv {tg : Tg} {test : TM} {elt : EM} {ok : Store → Prop} {Q : List PV → Store → Prop} (I : Nat → List PV → Store → Prop) {xs : List PV} {k : Nat} {env : PEnv} {st : Store} {acc : List PV} (h0 : I k acc st)
    (hs : ∀ i v st acc, xs[i]? = some v → I (k + i) acc st → ∃ e, setTg tg v env = some e ∧ Sat (test e st) fun b s => if b = true then Sat (elt e s) fun y s => acc.length < sizeLine ∧ I (k + i + 1) (acc ++ [y]) s else I (k + i + 1) acc s)
    (hd : ∀ acc st, I (k + xs.length) acc st → Q acc st) (ho : ∀ i acc st, I i acc st → ok st := by intros; exact True.intro) : Sat (compL tg test elt ok xs env st acc) Q := comp_invC I h0 hs hd ho
/-- a def -/
theorem sat_body {n : Nat} {f : SM} {args : List PV} {Q : PV → Store → Prop} (h : SatS (f (args.map some ++ List.replicate (n - args.length) none) st) (fun _ s => Q .non s) Q) : Sat (runBody n f args st) Q := by
  unfold runBody
  rcases h with ⟨a, s, e, q⟩ | ⟨a, s, e, q⟩
  · rw [e]; exact ⟨_, _, rfl, q⟩
  · rw [e]; exact ⟨_, _, rfl, q⟩
theorem Sat.elim {r : Res α} (h : Sat r Q) : ∃ a s, r = .ok a s ∧ Q a s := by
  obtain ⟨a, s, e, q⟩ := h
  exact ⟨a, s, e, q⟩
end
end PL
/-! PL, part o: what the operators are worth at given kinds. -/
namespace PL
open PySem PySem.Spec PyProof.Rows L2
theorem nabs {n : Nat} : Int.natAbs (no_index (OfNat.ofNat n)) = n := rfl
section
variable {Q : PV → Store → Prop} {st : Store} {i j : Int} {x y : Str} {a b : Bool} {xs ys : List PV}
theorem eq_if {α : Type} {c : Prop} [Decidable c] {r : Res α} {Q : α → Store → Prop} : Sat (if c then r else .stuck) Q = (c ∧ Sat r Q) := by
  by_cases h : c
  · rw [if_pos h, eq_iff_iff]; simp [h]
  · rw [if_neg h, sat_stuck]; simp [h]
theorem o_addI : Sat (pAdd (.int i) (.int j) st) Q = Q (.int (i + j)) st := sat_of rfl
theorem o_addS : Sat (pAdd (.str x) (.str y) st) Q = (x.length + y.length ≤ sizeLine ∧ Q (.str (x ++ y)) st) := by show Sat (if _ then _ else _) Q = _; rw [eq_if, sat_ok]
theorem o_addT : Sat (pAdd (.tup xs) (.tup ys) st) Q = (xs.length + ys.length ≤ sizeLine ∧ Q (.tup (xs ++ ys)) st) := by show Sat (if _ then _ else _) Q = _; rw [eq_if, sat_ok]
theorem o_addL : Sat (pAdd (.lst xs) (.lst ys) st) Q = (xs.length + ys.length ≤ sizeLine ∧ Q (.lst (xs ++ ys)) st) := by show Sat (if _ then _ else _) Q = _; rw [eq_if, sat_ok]
theorem o_subI : Sat (pSub (.int i) (.int j) st) Q = Q (.int (i - j)) st := sat_of rfl
theorem o_mulI : Sat (pMul (.int i) (.int j) st) Q = (((i.natAbs < 2 ^ 64 ∨ j.natAbs < 2 ^ 64) ∨ i.natAbs.log2 + j.natAbs.log2 < 1000000) ∧ Q (.int (i * j)) st) := by show Sat (if _ then _ else _) Q = _; rw [eq_if, sat_ok]
theorem o_fdivI : Sat (pFdiv (.int i) (.int j) st) Q = ((0 < j ∧ j.natAbs.log2 < 9000) ∧ Q (.int (i / j)) st) := by show Sat (if _ then _ else _) Q = _; rw [eq_if, sat_ok]
theorem o_modI : Sat (pMod (.int i) (.int j) st) Q = (0 < j ∧ Q (.int (i % j)) st) := by show Sat (if _ then _ else _) Q = _; rw [eq_if, sat_ok]
theorem o_powI : Sat (pPow (.int i) (.int j) st) Q = ((0 ≤ j ∧ j ≤ 1000000 ∧ i.natAbs < 2 ^ 64) ∧ Q (.int (i ^ j.toNat)) st) := by show Sat (if _ then _ else _) Q = _; rw [eq_if, sat_ok]
theorem o_negI : Sat (pNeg (.int i) st) Q = Q (.int (-i)) st := sat_of rfl
theorem o_eqI : Sat (pEq (.int i) (.int j) st) Q = Q (.bl (decide (i = j))) st := by
  unfold pEq
  rw [if_pos (by simp [isD, toD, PyData.depth])]
  simp only [toD, PyData.eqv, sat_ok]
  first | rfl | (congr 2; simp [beq_eq_decide])
theorem o_neI : Sat (pNe (.int i) (.int j) st) Q = Q (.bl (!decide (i = j))) st := by
  unfold pNe
  rw [if_pos (by simp [isD, toD, PyData.depth])]
  simp only [toD, PyData.eqv, sat_ok]
  first | rfl | (congr 2; simp [beq_eq_decide])
theorem o_eqS : Sat (pEq (.str x) (.str y) st) Q = Q (.bl (decide (x = y))) st := by
  unfold pEq
  rw [if_pos (by simp [isD, toD, PyData.depth])]
  simp only [toD, PyData.eqv, sat_ok]
  first | rfl | (congr 2; simp [beq_eq_decide])
theorem o_neS : Sat (pNe (.str x) (.str y) st) Q = Q (.bl (!decide (x = y))) st := by
  unfold pNe
  rw [if_pos (by simp [isD, toD, PyData.depth])]
  simp only [toD, PyData.eqv, sat_ok]
  first | rfl | (congr 2; simp [beq_eq_decide])
theorem dlt_int : PySem.W.dataLt (.int i) (.int j) = decide (i < j) := by
  unfold PySem.W.dataLt
  simp only [PySem.W.keyToks]
  rw [PySem.W.lex_one]
  first | rfl | simp [PySem.W.itemLt]
theorem ord_int : OrdOk (.int i) (.int j) := by
  refine ⟨by simp [isD], by simp [isD], by simp [toD, PySem.W.alike], rfl, by simp [toD, PyData.depth]⟩
theorem ord_str : OrdOk (.str x) (.str y) := by
  refine ⟨by simp [isD], by simp [isD], by simp [toD, PySem.W.alike], rfl, by simp [toD, PyData.depth]⟩
theorem o_ltI : Sat (pLt (.int i) (.int j) st) Q = Q (.bl (decide (i < j))) st := by
  unfold pLt; rw [if_pos ord_int]; simp only [toD, dlt_int, sat_ok]
theorem o_gtI : Sat (pGt (.int i) (.int j) st) Q = Q (.bl (decide (j < i))) st := by
  unfold pGt; rw [if_pos ord_int]; simp only [toD, dlt_int, sat_ok]
theorem o_leI : Sat (pLe (.int i) (.int j) st) Q = Q (.bl (!decide (j < i))) st := by
  unfold pLe; rw [if_pos ord_int]; simp only [toD, dlt_int, sat_ok]
theorem o_geI : Sat (pGe (.int i) (.int j) st) Q = Q (.bl (!decide (i < j))) st := by
  unfold pGe; rw [if_pos ord_int]; simp only [toD, dlt_int, sat_ok]
def strLt (x y : Str) : Bool := PySem.W.dataLt (.str x) (.str y)
theorem o_ltS : Sat (pLt (.str x) (.str y) st) Q = Q (.bl (strLt x y)) st := by
  unfold pLt; rw [if_pos ord_str]; simp only [toD, strLt, sat_ok]
theorem o_geS : Sat (pGe (.str x) (.str y) st) Q = Q (.bl (!strLt x y)) st := by
  unfold pGe; rw [if_pos ord_str]; simp only [toD, strLt, sat_ok]
theorem o_inS : Sat (pIn (.str x) (.str y) st) Q = Q (.bl (inStr x y)) st := sat_of rfl
theorem o_notInS : Sat (pNotIn (.str x) (.str y) st) Q = Q (.bl (!inStr x y)) st := sat_of rfl
theorem o_isN : Sat (pIs .non .non st) Q = Q (.bl true) st := sat_of rfl
theorem o_isNotN : Sat (pIsNot .non .non st) Q = Q (.bl false) st := sat_of rfl
theorem o_isT : Sat (pIs (.tup xs) .non st) Q = Q (.bl false) st := sat_of rfl
theorem o_isNotT : Sat (pIsNot (.tup xs) .non st) Q = Q (.bl true) st := sat_of rfl
theorem o_isS : Sat (pIs (.str x) .non st) Q = Q (.bl false) st := sat_of rfl
theorem o_isNotS : Sat (pIsNot (.str x) .non st) Q = Q (.bl true) st := sat_of rfl
theorem o_int : Sat (pInt (.int i) st) Q = Q (.int i) st := sat_of rfl
theorem o_intB : Sat (pInt (.bl a) st) Q = Q (.int (if a then 1 else 0)) st := sat_of rfl
theorem o_abs : Sat (pAbs (.int i) st) Q = Q (.int (if i < 0 then -i else i)) st := sat_of rfl
theorem o_str : Sat (pStr (.int i) st) Q = (i.natAbs.log2 < 1920 ∧ Q (.str (strInt i)) st) := by show Sat (if _ then _ else _) Q = _; rw [eq_if, sat_ok]
theorem o_lenT : Sat (pLen (.tup xs) st) Q = Q (.int xs.length) st := sat_of rfl
theorem o_lenL : Sat (pLen (.lst xs) st) Q = Q (.int xs.length) st := sat_of rfl
theorem o_lenF : Sat (pLen (.frz xs) st) Q = Q (.int xs.length) st := sat_of rfl
theorem o_lenS : Sat (pLen (.str x) st) Q = (x.length ≤ sizeLine ∧ Q (.int x.length) st) := by show Sat (if _ then _ else _) Q = _; rw [eq_if, sat_ok]
/-- what an index gives -/
def ixW (xs : List PV) (i : Int) (Q : PV → Prop) : Prop := match atI xs i with
  | some y => Q y
  | none => False
theorem o_ixT : Sat (pIx (.tup xs) (.int i) st) Q = ixW xs i fun y => Q y st := by
  show Sat (match atI xs i with | some y => .ok y st | none => .stuck) Q = _
  unfold ixW; cases atI xs i with
  | none => exact sat_stuck
  | some y => exact sat_ok
theorem o_ixL : Sat (pIx (.lst xs) (.int i) st) Q = ixW xs i fun y => Q y st := by
  show Sat (match atI xs i with | some y => .ok y st | none => .stuck) Q = _
  unfold ixW; cases atI xs i with
  | none => exact sat_stuck
  | some y => exact sat_ok
theorem o_ixF : Sat (pIx (.frz xs) (.int i) st) Q = ixW xs i fun y => Q y st := by
  show Sat (match atI xs i with | some y => .ok y st | none => .stuck) Q = _
  unfold ixW; cases atI xs i with
  | none => exact sat_stuck
  | some y => exact sat_ok
theorem o_ixP {l : Nat} (h : st[l]? = some (.lst xs)) : Sat (pIx (.loc l) (.int i) st) Q = ixW xs i fun y => Q y st := by
  have e : seqOf st (.loc l) = some (false, xs) := by unfold seqOf; simp only [h]
  show Sat (match seqOf st (.loc l) with | some (_, xs) => (match atI xs i with | some y => .ok y st | none => .stuck) | none => .stuck) Q = _
  rw [e]
  unfold ixW; show Sat (match atI xs i with | some y => .ok y st | none => .stuck) Q = _; cases atI xs i with
  | none => exact sat_stuck
  | some y => exact sat_ok
theorem ixW_of {k : Nat} {y : PV} {P : PV → Prop} (h : xs[k]? = some y) (p : P y) : ixW xs (k : Int) P := by
  have hk : k < xs.length := (List.getElem?_eq_some_iff.mp h).1
  unfold ixW atI ixN
  rw [if_pos (by omega), if_pos (by omega)]
  simp only [Int.toNat_natCast, Option.bind_some, h]
  exact p
theorem ixW_in {i : Int} {P : PV → Prop} (h0 : 0 ≤ i) (h1 : i < xs.length) (p : ∀ y, xs[i.toNat]? = some y → P y) : ixW xs i P := by
  obtain ⟨k, rfl⟩ := Int.eq_ofNat_of_zero_le h0
  have hk : k < xs.length := by omega
  exact ixW_of (List.getElem?_eq_getElem hk) (p _ (by simp [List.getElem?_eq_getElem hk]))
theorem ixW_0 {P : PV → Prop} {v : PV} : ixW (v :: xs) 0 P = P v := by
  have : (0 : Int) < ((v :: xs).length : Int) := by simp only [List.length_cons]; omega
  unfold ixW atI ixN
  rw [if_pos (by omega), if_pos this]
  rfl
theorem ixW_1 {P : PV → Prop} {v w : PV} : ixW (v :: w :: xs) 1 P = P w := by
  have : (1 : Int) < ((v :: w :: xs).length : Int) := by simp; omega
  unfold ixW atI ixN
  rw [if_pos (by omega), if_pos this]
  rfl
theorem ixW_2 {P : PV → Prop} {v w u : PV} : ixW (v :: w :: u :: xs) 2 P = P u := by
  have : (2 : Int) < ((v :: w :: u :: xs).length : Int) := by simp; omega
  unfold ixW atI ixN
  rw [if_pos (by omega), if_pos this]
  rfl
theorem o_set {l : Nat} {v : PV} {Q : Unit → Store → Prop} (h : st[l]? = some (.lst xs)) : Sat (pSet (.loc l) (.int i) v st) Q = match ixN xs.length i with
    | some j => Q () (st.set l (.lst (xs.set j v)))
    | none => False := by
  unfold pSet
  simp only
  rw [h]
  simp only
  cases ixN xs.length i with
  | none => exact sat_stuck
  | some y => exact sat_ok
theorem o_app {l : Nat} {v : PV} (h : st[l]? = some (.lst xs)) : Sat (pAppend (.loc l) [v] st) Q = (xs.length < sizeLine ∧ Q .non (st.set l (.lst (xs ++ [v])))) := by
  unfold pAppend
  simp only
  rw [h]
  simp only
  rw [eq_if, sat_ok]
theorem o_isL {l : Nat} (h : st[l]? = some (.lst xs)) : isListP (.loc l) st = true := by
  unfold isListP; simp only [h]
theorem o_isStr : isStrP (.str x) st = true := rfl
theorem o_lenP {l : Nat} (h : st[l]? = some (.lst xs)) : Sat (pLen (.loc l) st) Q = Q (.int xs.length) st := by
  have e : seqOf st (.loc l) = some (false, xs) := by unfold seqOf; simp only [h]
  unfold pLen
  simp only
  rw [e]; exact sat_ok
theorem o_tupL : Sat (pTuple (.lst xs) st) Q = Q (.tup xs) st := sat_of rfl
theorem o_tupT : Sat (pTuple (.tup xs) st) Q = Q (.tup xs) st := sat_of rfl
theorem o_tupP {l : Nat} (h : st[l]? = some (.lst xs)) : Sat (pTuple (.loc l) st) Q = Q (.tup xs) st := by
  have e : seqOf st (.loc l) = some (false, xs) := by unfold seqOf; simp only [h]
  unfold pTuple
  rw [e]; exact sat_ok
theorem o_listT : Sat (pList (.tup xs) st) Q = Q (.lst xs) st := sat_of rfl
theorem o_listL : Sat (pList (.lst xs) st) Q = Q (.lst xs) st := sat_of rfl
theorem o_listLocT : Sat (pListLoc (.tup xs) st) Q = Q (.loc st.length) (st ++ [.lst xs]) := sat_of rfl
theorem o_gcd : Sat (pGcd [.int i, .int j] st) Q = Q (.int ((Nat.gcd i.natAbs j.natAbs : Nat) : Int)) st := sat_of rfl
theorem o_bits : Sat (pBits (.int i) st) Q = Q (.int (Builtin.Int.intBits i : Nat)) st := sat_of rfl
theorem o_finF : Sat (fin false xs st) Q = Q (.lst xs) st := sat_of rfl
theorem o_finT : Sat (fin true xs st) Q = Q (.loc st.length) (st ++ [.lst xs]) := sat_of rfl
/-! walks -/
variable {Qx : Itms → Store → Prop}
theorem sat_iVal {f : EM} {env : PEnv} : Sat (iVal f env st) Qx = Sat (f env st) fun v s => Sat (pIter v s) Qx := by unfold iVal; rw [sat_bind]
theorem sat_iEnum {f : EM} {env : PEnv} : Sat (iEnumM f env st) Qx = Sat (f env st) fun v s => Sat (pEnum v s) Qx := by unfold iEnumM; rw [sat_bind]
theorem sat_iRange1 {f : EM} {env : PEnv} : Sat (iRange1 f env st) Qx = Sat (f env st) fun v s => Sat (pRange1 [v] s) Qx := by
  unfold iRange1; rw [sat_bind, sat_cons]; simp only [sat_nil]
theorem sat_iRange2 {f g : EM} {env : PEnv} : Sat (iRange2 f g env st) Qx = Sat (f env st) fun v s => Sat (g env s) fun w s => Sat (pRange2 [v, w] s) Qx := by
  unfold iRange2; rw [sat_bind, sat_cons]; simp only [sat_cons, sat_nil]
theorem o_itT : Sat (pIter (.tup xs) st) Qx = Qx ⟨xs, none⟩ st := sat_of rfl
theorem o_itL : Sat (pIter (.lst xs) st) Qx = Qx ⟨xs, none⟩ st := sat_of rfl
theorem o_itF : Sat (pIter (.frz xs) st) Qx = Qx ⟨xs, none⟩ st := sat_of rfl
theorem o_itS : Sat (pIter (.str x) st) Qx = Qx ⟨signs x, none⟩ st := sat_of rfl
theorem o_itP {l : Nat} (h : st[l]? = some (.lst xs)) : Sat (pIter (.loc l) st) Qx = Qx ⟨xs, some (l, xs)⟩ st := by
  unfold pIter
  simp only
  rw [h]
  exact sat_ok
theorem o_enT : Sat (pEnum (.tup xs) st) Qx = Qx ⟨enums xs, none⟩ st := sat_of rfl
theorem o_rng : Sat (pRange1 [.int j] st) Qx = ((-(2 ^ 62) ≤ j ∧ j < 2 ^ 62) ∧ Qx ⟨rngs 0 j.toNat, none⟩ st) := by show Sat (if _ then _ else _) Qx = _; rw [eq_if, sat_ok]
end
end PL
/-! printed by gen.py: the plain evaluators -/
namespace PL
open PySem PySem.Spec PyProof.Rows L2
noncomputable section
abbrev N_reduced : List Str := ["weights", "common", "weight"]
def f_reduced : SM :=
  (sSeq (sSet 1 (eC (.int 0)))
    (sSeq (sFor (iVal (eVar 0)) (.one 2)
    (sSet 1 (eArgs pGcd (aCons (eVar 1) (aCons (eVar 2) aNil)))))
    (sSeq (sIf (eTest (eBin pEq (eVar 1) (eC (.int 0)))) (sRet (eArgs (one pTuple) (aCons (eVar 0) aNil))) sNil)
    (sRet (eArgs (one pTuple) (aCons (eComp [2] (iVal (eVar 0)) (.one 2) tYesM (eBin pFdiv (eVar 2) (eVar 1))) aNil))))))
def m_reduced : List PV → Store → Res PV := runBody 3 f_reduced
abbrev N_is_name : List Str := ["word", "char"]
def f_is_name : SM :=
  (sSeq (sIf (tOrM (tNotM (eTest (eChain pLe pLe (eC (.int 1)) (eArgs (one pLen) (aCons (eVar 0) aNil)) (eC (.int 12))))) (eTest (eBin pNotIn (eBin pIx (eVar 0) (eC (.int 0))) (eC (.str "abcdefghijklmnopqrstuvwxyz"))))) (sRet (eC (.bl false))) sNil)
    (sSeq (sFor (iVal (eVar 0)) (.one 1)
    (sIf (tAndM (eTest (eBin pNotIn (eVar 1) (eC (.str "abcdefghijklmnopqrstuvwxyz")))) (eTest (eBin pNotIn (eVar 1) (eC (.str "0123456789"))))) (sRet (eC (.bl false))) sNil))
    (sRet (eC (.bl true)))))
def m_is_name : List PV → Store → Res PV := runBody 2 f_is_name
abbrev N_row_of : List Str := ["game", "name", "row"]
def f_row_of : SM :=
  (sSeq (sFor (iVal (eBin pIx (eVar 0) (eC (.int 0)))) (.one 2)
    (sIf (eTest (eBin pEq (eBin pIx (eVar 2) (eC (.int 0))) (eVar 1))) (sRet (eVar 2)) sNil))
    (sRet (eC .non)))
def m_row_of : List PV → Store → Res PV := runBody 3 f_row_of
abbrev N_are_weights : List Str := ["owner", "weights", "weight"]
def f_are_weights : SM :=
  (sSeq (sIf (tNotM (eTest (eChain pLe pLe (eC (.int 1)) (eArgs (one pLen) (aCons (eVar 1) aNil)) (eC (.int 64))))) (sRet (eC (.bl false))) sNil)
    (sSeq (sFor (iVal (eVar 1)) (.one 2)
    (sIf (tOrM (eTest (eBin pLt (eVar 2) (eC (.int 1)))) (tAndM (eTest (eBin pNe (eVar 0) (eC (.int 0)))) (eTest (eBin pNe (eVar 2) (eC (.int 1)))))) (sRet (eC (.bl false))) sNil))
    (sRet (eBin pEq (eCall 1 m_reduced (aCons (eVar 1) aNil)) (eArgs (one pTuple) (aCons (eVar 1) aNil))))))
def m_are_weights : List PV → Store → Res PV := runBody 3 f_are_weights
abbrev N_row_fault : List Str := ["sets", "index", "name", "owner", "weights"]
def f_row_fault : SM :=
  (sSeq (sTg (.tup [2, 3, 4]) (eBin pIx (eVar 0) (eVar 1)))
    (sSeq (sIf (tNotM (eTest (eCall 1 m_is_name (aCons (eVar 2) aNil)))) (sRet (eC (.str "name"))) sNil)
    (sSeq (sIf (tAndM (eTest (eBin pGt (eVar 1) (eC (.int 0)))) (tNotM (eTest (eBin pLt (eBin pIx (eBin pIx (eVar 0) (eBin pSub (eVar 1) (eC (.int 1)))) (eC (.int 0))) (eVar 2))))) (sRet (eC (.str "order"))) sNil)
    (sSeq (sIf (eTest (eBin pNotIn (eVar 3) (eArgs mkTup (aCons (eC (.int 0)) (aCons (eC (.int 1)) (aCons (eC (.int 2)) aNil)))))) (sRet (eC (.str "owner"))) sNil)
    (sSeq (sIf (tNotM (eTest (eCall 2 m_are_weights (aCons (eVar 3) (aCons (eVar 4) aNil))))) (sRet (eC (.str "weights"))) sNil)
    (sRet (eC .non)))))))
def m_row_fault : List PV → Store → Res PV := runBody 5 f_row_fault
abbrev N_node_fault : List Str := ["game", "node", "path", "passed", "row", "move", "child", "fault"]
def f_node_fault (self : List PV → Store → Res PV) : SM :=
  (sSeq (sIf (eTest (eArgs (pIsi) (aCons (eVar 1) (aCons (eC (.con (.ty "str"))) aNil)))) (sSeq (sIf (eTest (eCall 1 m_is_name (aCons (eVar 1) aNil))) (sRet (eC .non)) sNil)
    (sRet (eArgs mkTup (aCons (eC (.str "tree")) (aCons (eVar 2) (aCons (eC (.str "outcome")) aNil)))))) sNil)
    (sSeq (sSet 4 (eCall 2 m_row_of (aCons (eVar 0) (aCons (eBin pIx (eVar 1) (eC (.int 0))) aNil))))
    (sSeq (sIf (eTest (eBin pIs (eVar 4) (eC .non))) (sRet (eArgs mkTup (aCons (eC (.str "tree")) (aCons (eVar 2) (aCons (eC (.str "undeclared")) aNil))))) sNil)
    (sSeq (sIf (eTest (eBin pNe (eArgs (one pLen) (aCons (eBin pIx (eVar 1) (eC (.int 1))) aNil)) (eArgs (one pLen) (aCons (eBin pIx (eVar 4) (eC (.int 2))) aNil)))) (sRet (eArgs mkTup (aCons (eC (.str "tree")) (aCons (eVar 2) (aCons (eC (.str "count")) aNil))))) sNil)
    (sSeq (sIf (eTest (eBin pIn (eBin pIx (eVar 1) (eC (.int 0))) (eVar 3))) (sRet (eArgs mkTup (aCons (eC (.str "tree")) (aCons (eVar 2) (aCons (eC (.str "repeated")) aNil))))) sNil)
    (sSeq (sFor (iEnumM (eBin pIx (eVar 1) (eC (.int 1)))) (.tup [5, 6])
    (sSeq (sSet 7 (eCall 4 self (aCons (eVar 0) (aCons (eVar 6) (aCons (eBin pAdd (eVar 2) (eArgs mkTup (aCons (eVar 5) aNil))) (aCons (eBin pAdd (eVar 3) (eArgs mkTup (aCons (eBin pIx (eVar 1) (eC (.int 0))) aNil))) aNil))))))
    (sIf (eTest (eBin pIsNot (eVar 7) (eC .non))) (sRet (eVar 7)) sNil)))
    (sRet (eC .non))))))))
def m_node_fault : List PV → Store → Res PV := fuelF 8 f_node_fault 60
abbrev N_first_fault : List Str := ["game", "index", "sets", "tree", "kind"]
def f_first_fault : SM :=
  (sSeq (sTg (.tup [2, 3]) (eVar 0))
    (sSeq (sFor (iRange1 (eArgs (one pLen) (aCons (eVar 2) aNil))) (.one 1)
    (sSeq (sSet 4 (eCall 2 m_row_fault (aCons (eVar 2) (aCons (eVar 1) aNil))))
    (sIf (eTest (eBin pIsNot (eVar 4) (eC .non))) (sRet (eArgs mkTup (aCons (eC (.str "sets")) (aCons (eVar 1) (aCons (eVar 4) aNil))))) sNil)))
    (sRet (eCall 4 m_node_fault (aCons (eVar 0) (aCons (eVar 3) (aCons (eArgs mkTup aNil) (aCons (eArgs mkTup aNil) aNil))))))))
def m_first_fault : List PV → Store → Res PV := runBody 5 f_first_fault
abbrev N_check_game : List Str := ["game", "fault"]
def f_check_game : SM :=
  (sSeq (sSet 1 (eCall 1 m_first_fault (aCons (eVar 0) aNil)))
    (sIf (eTest (eBin pIsNot (eVar 1) (eC .non))) (sRaise "BadGame" "fault" (eVar 1)) sNil))
def m_check_game : List PV → Store → Res PV := runBody 2 f_check_game
abbrev N_law_source : List Str := ["script", "mixed", "cell"]
def f_law_source : SM :=
  (sSeq (sSet 1 (eC (.int 20011)))
    (sSeq (sFor (iVal (eVar 0)) (.one 2)
    (sSet 1 (eBin pMod (eArgs (one pInt) (aCons (eBin pAdd (eBin pAdd (eBin pMul (eVar 1) (eC (.int 48271))) (eBin pMul (eVar 2) (eC (.int 7919)))) (eC (.int 12345))) aNil)) (eC (.int 2147483647)))))
    (sRet (eArgs mkLoc (aCons (eC (.int 0)) (aCons (eC (.int 0)) (aCons (eVar 1) aNil)))))))
def m_law_source : List PV → Store → Res PV := runBody 3 f_law_source
abbrev N_law_draw : List Str := ["script", "source", "limit", "cell", "found"]
def f_law_draw : SM :=
  (sSeq (sIf (tAndM (eTest (eBin pEq (eBin pIx (eVar 1) (eC (.int 1))) (eC (.int 0)))) (eTest (eBin pLt (eBin pIx (eVar 1) (eC (.int 0))) (eArgs (one pLen) (aCons (eVar 0) aNil))))) (sSeq (sSet 3 (eArgs (one pAbs) (aCons (eBin pIx (eVar 0) (eBin pIx (eVar 1) (eC (.int 0)))) aNil)))
    (sSeq (sSub pSet (eVar 1) (eC (.int 0)) (eBin pAdd (eBin pIx (eVar 1) (eC (.int 0))) (eC (.int 1))))
    (sSeq (sIf (eTest (eBin pLt (eVar 3) (eBin pPow (eC (.int 10)) (eC (.int 18))))) (sSeq (sSet 3 (eBin pMod (eArgs (one pInt) (aCons (eBin pAdd (eBin pAdd (eBin pMul (eVar 3) (eC (.int 48271))) (eBin pMul (eBin pIx (eVar 1) (eC (.int 0))) (eC (.int 69621)))) (eBin pIx (eVar 1) (eC (.int 2)))) aNil)) (eC (.int 2147483647))))
    (sSet 3 (eBin pMod (eArgs (one pInt) (aCons (eBin pAdd (eBin pAdd (eBin pMul (eVar 3) (eVar 3)) (eBin pMul (eVar 3) (eC (.int 30011)))) (eBin pIx (eVar 1) (eC (.int 0)))) aNil)) (eC (.int 1000000007))))) sNil)
    (sSub pSet (eVar 1) (eC (.int 1)) (eVar 3))))) sNil)
    (sSeq (sIf (eTest (eBin pGt (eBin pIx (eVar 1) (eC (.int 1))) (eC (.int 0)))) (sSeq (sSet 4 (eBin pMod (eArgs (one pInt) (aCons (eBin pIx (eVar 1) (eC (.int 1))) aNil)) (eVar 2)))
    (sSeq (sSub pSet (eVar 1) (eC (.int 1)) (eBin pFdiv (eBin pIx (eVar 1) (eC (.int 1))) (eVar 2)))
    (sRet (eVar 4)))) sNil)
    (sSeq (sSub pSet (eVar 1) (eC (.int 2)) (eBin pMod (eArgs (one pInt) (aCons (eBin pAdd (eBin pMul (eBin pIx (eVar 1) (eC (.int 2))) (eC (.int 69621))) (eC (.int 4321))) aNil)) (eC (.int 2147483647))))
    (sRet (eBin pMod (eArgs (one pInt) (aCons (eBin pFdiv (eBin pIx (eVar 1) (eC (.int 2))) (eC (.int 97))) aNil)) (eVar 2))))))
def m_law_draw : List PV → Store → Res PV := runBody 5 f_law_draw
abbrev N_law_name : List Str := ["script", "source", "used", "letters", "signs", "name", "k", "base"]
def f_law_name : SM :=
  (sSeq (sSet 3 (eC (.str "abcdefghijklmnopqrstuvwxyz")))
    (sSeq (sSet 4 (eBin pAdd (eVar 3) (eC (.str "0123456789"))))
    (sSeq (sSet 5 (eBin pIx (eVar 3) (eCall 3 m_law_draw (aCons (eVar 0) (aCons (eVar 1) (aCons (eC (.int 26)) aNil))))))
    (sSeq (sFor (iRange1 (eCall 3 m_law_draw (aCons (eVar 0) (aCons (eVar 1) (aCons (eC (.int 3)) aNil))))) (.one 6)
    (sSet 5 (eBin pAdd (eVar 5) (eBin pIx (eVar 4) (eCall 3 m_law_draw (aCons (eVar 0) (aCons (eVar 1) (aCons (eC (.int 36)) aNil))))))))
    (sSeq (sIf (eTest (eBin pEq (eCall 3 m_law_draw (aCons (eVar 0) (aCons (eVar 1) (aCons (eC (.int 6)) aNil)))) (eC (.int 1)))) (sSet 5 (eBin pIx (eArgs mkLst (aCons (eC (.str "p0")) (aCons (eC (.str "p1")) (aCons (eC (.str "p2")) (aCons (eC (.str "m0")) (aCons (eC (.str "m1")) (aCons (eC (.str "m2")) aNil))))))) (eCall 3 m_law_draw (aCons (eVar 0) (aCons (eVar 1) (aCons (eC (.int 6)) aNil)))))) sNil)
    (sSeq (sSet 7 (eVar 5))
    (sSeq (sFor (iRange1 (eBin pAdd (eArgs (one pLen) (aCons (eVar 2) aNil)) (eC (.int 1)))) (.one 6)
    (sIf (eTest (eBin pIn (eVar 5) (eVar 2))) (sSet 5 (eBin pAdd (eVar 7) (eArgs (one pStr) (aCons (eVar 6) aNil)))) sNil))
    (sRet (eVar 5)))))))))
def m_law_name : List PV → Store → Res PV := runBody 8 f_law_name
abbrev N_law_gcd : List Str := ["a", "b", "k"]
def f_law_gcd : SM :=
  (sSeq (sFor (iRange1 (eBin pAdd (eBin pMul (eC (.int 2)) (eUn pBits (eArgs (one pInt) (aCons (eVar 1) aNil)))) (eC (.int 2)))) (.one 2)
    (sSeq (sIf (eTest (eBin pEq (eVar 1) (eC (.int 0)))) (sRet (eVar 0)) sNil)
    (sPar 0 1 (aCons (eVar 1) (aCons (eBin pMod (eArgs (one pInt) (aCons (eVar 0) aNil)) (eVar 1)) aNil)))))
    (sRet (eVar 0)))
def m_law_gcd : List PV → Store → Res PV := runBody 3 f_law_gcd
abbrev N_law_reduced : List Str := ["weights", "common", "weight"]
def f_law_reduced : SM :=
  (sSeq (sSet 1 (eC (.int 0)))
    (sSeq (sFor (iVal (eVar 0)) (.one 2)
    (sSet 1 (eCall 2 m_law_gcd (aCons (eVar 2) (aCons (eVar 1) aNil)))))
    (sSeq (sIf (eTest (eBin pEq (eVar 1) (eC (.int 0)))) (sRet (eArgs (one pTuple) (aCons (eVar 0) aNil))) sNil)
    (sRet (eArgs (one pTuple) (aCons (eComp [2] (iVal (eVar 0)) (.one 2) tYesM (eBin pFdiv (eVar 2) (eVar 1))) aNil))))))
def m_law_reduced : List PV → Store → Res PV := runBody 3 f_law_reduced
abbrev N_law_sets : List Str := ["script", "source", "many", "most", "rows", "used", "turn", "k", "count", "owner", "weights", "name", "j"]
def f_law_sets : SM :=
  (sSeq (sSet 4 (eArgs mkLoc aNil))
    (sSeq (sSet 5 (eArgs mkLoc aNil))
    (sSeq (sSet 6 (eCall 3 m_law_draw (aCons (eVar 0) (aCons (eVar 1) (aCons (eC (.int 3)) aNil)))))
    (sSeq (sFor (iRange1 (eBin pSub (eVar 2) (eBin pMul (eBin pIx (eArgs mkLst (aCons (eC (.int 0)) (aCons (eC (.int 0)) (aCons (eC (.int 0)) (aCons (eC (.int 1)) aNil))))) (eCall 3 m_law_draw (aCons (eVar 0) (aCons (eVar 1) (aCons (eC (.int 4)) aNil))))) (eCall 3 m_law_draw (aCons (eVar 0) (aCons (eVar 1) (aCons (eBin pAdd (eVar 2) (eC (.int 1))) aNil))))))) (.one 7)
    (sSeq (sSet 8 (eBin pIx (eArgs mkLst (aCons (eC (.int 2)) (aCons (eC (.int 2)) (aCons (eC (.int 3)) (aCons (eC (.int 2)) (aCons (eC (.int 2)) (aCons (eC (.int 4)) (aCons (eC (.int 3)) (aCons (eC (.int 1)) aNil))))))))) (eCall 3 m_law_draw (aCons (eVar 0) (aCons (eVar 1) (aCons (eC (.int 8)) aNil))))))
    (sSeq (sIf (eTest (eBin pGt (eVar 8) (eVar 3))) (sSet 8 (eC (.int 1))) sNil)
    (sSeq (sSet 3 (eBin pFdiv (eVar 3) (eVar 8)))
    (sSeq (sSet 9 (eBin pIx (eArgs mkLst (aCons (eBin pMod (eArgs (one pInt) (aCons (eBin pAdd (eVar 6) (eVar 7)) aNil)) (eC (.int 3))) (aCons (eBin pMod (eArgs (one pInt) (aCons (eBin pAdd (eVar 6) (eVar 7)) aNil)) (eC (.int 3))) (aCons (eC (.int 1)) (aCons (eC (.int 2)) aNil))))) (eCall 3 m_law_draw (aCons (eVar 0) (aCons (eVar 1) (aCons (eC (.int 4)) aNil))))))
    (sSeq (sSet 10 (eComp [12] (iRange1 (eVar 8)) (.one 12) tYesM (eC (.int 1))))
    (sSeq (sIf (eTest (eBin pEq (eVar 9) (eC (.int 0)))) (sSet 10 (eComp [12] (iRange1 (eVar 8)) (.one 12) tYesM (eBin pAdd (eC (.int 1)) (eCall 3 m_law_draw (aCons (eVar 0) (aCons (eVar 1) (aCons (eC (.int 5)) aNil))))))) sNil)
    (sSeq (sSet 11 (eCall 3 m_law_name (aCons (eVar 0) (aCons (eVar 1) (aCons (eVar 5) aNil)))))
    (sSeq (sExpr (eMeth isListP pAppend (eVar 5) (aCons (eVar 11) aNil)))
    (sExpr (eMeth isListP pAppend (eVar 4) (aCons (eArgs mkTup (aCons (eVar 11) (aCons (eVar 9) (aCons (eCall 1 m_law_reduced (aCons (eVar 10) aNil)) aNil)))) aNil))))))))))))
    (sRet (eArgs (one pTuple) (aCons (eArgs (one pSorted) (aCons (eVar 4) aNil)) aNil)))))))
def m_law_sets : List PV → Store → Res PV := runBody 13 f_law_sets
abbrev N_law_tree : List Str := ["script", "source", "free", "outcomes", "room", "wish", "stop", "row", "rest", "style", "shared", "children", "move", "other"]
def f_law_tree (self : List PV → Store → Res PV) : SM :=
  (sSeq (sSub pSet (eVar 4) (eC (.int 0)) (eBin pSub (eBin pIx (eVar 4) (eC (.int 0))) (eC (.int 1))))
    (sSeq (sSet 6 (eAndV (eBin pEq (eCall 3 m_law_draw (aCons (eVar 0) (aCons (eVar 1) (aCons (eC (.int 9)) aNil)))) (eC (.int 0))) (eBin pIs (eVar 5) (eC .non))))
    (sSeq (sIf (tOrM (eTest (eBin pEq (eArgs (one pLen) (aCons (eVar 2) aNil)) (eC (.int 0)))) (tOrM (eTest (eBin pLt (eBin pIx (eVar 4) (eC (.int 0))) (eC (.int 0)))) (eTest (eVar 6)))) (sRet (eBin pIx (eVar 3) (eCall 3 m_law_draw (aCons (eVar 0) (aCons (eVar 1) (aCons (eArgs (one pLen) (aCons (eVar 3) aNil)) aNil)))))) sNil)
    (sSeq (sSet 7 (eBin pIx (eVar 2) (eCall 3 m_law_draw (aCons (eVar 0) (aCons (eVar 1) (aCons (eArgs (one pLen) (aCons (eVar 2) aNil)) aNil))))))
    (sSeq (sIf (eTest (eBin pIsNot (eVar 5) (eC .non))) (sSet 7 (eVar 5)) sNil)
    (sSeq (sSet 8 (eComp [13] (iVal (eVar 2)) (.one 13) (eTest (eBin pNe (eBin pIx (eVar 13) (eC (.int 0))) (eBin pIx (eVar 7) (eC (.int 0))))) (eVar 13)))
    (sSeq (sSet 9 (eCall 3 m_law_draw (aCons (eVar 0) (aCons (eVar 1) (aCons (eC (.int 9)) aNil)))))
    (sSeq (sSet 10 (eC .non))
    (sSeq (sIf (tAndM (eTest (eBin pGt (eVar 9) (eC (.int 4)))) (eTest (eBin pGt (eArgs (one pLen) (aCons (eVar 8) aNil)) (eC (.int 0))))) (sSet 10 (eBin pIx (eVar 8) (eCall 3 m_law_draw (aCons (eVar 0) (aCons (eVar 1) (aCons (eArgs (one pLen) (aCons (eVar 8) aNil)) aNil)))))) sNil)
    (sSeq (sSet 11 (eArgs mkLoc aNil))
    (sSeq (sFor (iRange1 (eArgs (one pLen) (aCons (eBin pIx (eVar 7) (eC (.int 2))) aNil))) (.one 12)
    (sIf (tAndM (eTest (eBin pGt (eVar 12) (eC (.int 0)))) (tAndM (eTest (eBin pIs (eVar 5) (eC .non))) (tOrM (eTest (eBin pEq (eVar 9) (eC (.int 4)))) (tAndM (eTest (eBin pEq (eVar 9) (eC (.int 3)))) (eTest (eBin pEq (eCall 3 m_law_draw (aCons (eVar 0) (aCons (eVar 1) (aCons (eC (.int 2)) aNil)))) (eC (.int 0)))))))) (sExpr (eMeth isListP pAppend (eVar 11) (aCons (eBin pIx (eVar 11) (eBin pSub (eVar 12) (eC (.int 1)))) aNil))) (sExpr (eMeth isListP pAppend (eVar 11) (aCons (eCall 6 self (aCons (eVar 0) (aCons (eVar 1) (aCons (eVar 8) (aCons (eVar 3) (aCons (eVar 4) (aCons (eVar 10) aNil))))))) aNil)))))
    (sRet (eArgs mkTup (aCons (eBin pIx (eVar 7) (eC (.int 0))) (aCons (eArgs (one pTuple) (aCons (eVar 11) aNil)) aNil)))))))))))))))
def m_law_tree : List PV → Store → Res PV := fuelF 14 f_law_tree 60
abbrev N_law_game : List Str := ["script", "source", "many", "most", "nodes", "rows", "outcomes", "k", "top", "row"]
def f_law_game : SM :=
  (sSeq (sSet 5 (eCall 4 m_law_sets (aCons (eVar 0) (aCons (eVar 1) (aCons (eVar 2) (aCons (eVar 3) aNil))))))
    (sSeq (sSet 6 (eArgs mkLoc aNil))
    (sSeq (sFor (iRange1 (eBin pIx (eArgs mkLst (aCons (eC (.int 2)) (aCons (eC (.int 3)) (aCons (eC (.int 4)) (aCons (eC (.int 5)) (aCons (eC (.int 2)) (aCons (eC (.int 3)) (aCons (eC (.int 4)) (aCons (eC (.int 5)) (aCons (eC (.int 6)) (aCons (eC (.int 1)) aNil))))))))))) (eCall 3 m_law_draw (aCons (eVar 0) (aCons (eVar 1) (aCons (eC (.int 10)) aNil)))))) (.one 7)
    (sExpr (eMeth isListP pAppend (eVar 6) (aCons (eCall 3 m_law_name (aCons (eVar 0) (aCons (eVar 1) (aCons (eVar 6) aNil)))) aNil))))
    (sSeq (sSet 8 (eC .non))
    (sSeq (sFor (iVal (eVar 5)) (.one 9)
    (sIf (tOrM (eTest (eBin pIs (eVar 8) (eC .non))) (tOrM (eTest (eBin pEq (eArgs (one pLen) (aCons (eBin pIx (eVar 8) (eC (.int 2))) aNil)) (eC (.int 1)))) (eTest (eBin pEq (eCall 3 m_law_draw (aCons (eVar 0) (aCons (eVar 1) (aCons (eC (.int 2)) aNil)))) (eC (.int 0)))))) (sSet 8 (eVar 9)) sNil))
    (sRet (eArgs mkTup (aCons (eVar 5) (aCons (eCall 6 m_law_tree (aCons (eVar 0) (aCons (eVar 1) (aCons (eArgs (one pList) (aCons (eVar 5) aNil)) (aCons (eVar 6) (aCons (eArgs mkLoc (aCons (eVar 4) aNil)) (aCons (eVar 8) aNil))))))) aNil)))))))))
def m_law_game : List PV → Store → Res PV := runBody 10 f_law_game
abbrev N_law_plain : List Str := ["answer", "item"]
def f_law_plain (self : List PV → Store → Res PV) : SM :=
  (sSeq (sIf (eTest (eArgs (pIsi) (aCons (eVar 0) (aCons (eC (.con (.ty "tuple"))) aNil)))) (sRet (eBin pEq (eArgs (one pLen) (aCons (eComp [1] (iVal (eVar 0)) (.one 1) (tNotM (eTest (eCall 1 self (aCons (eVar 1) aNil)))) (eVar 1)) aNil)) (eC (.int 0)))) sNil)
    (sRet (eAndV (eNotV (eArgs (pIsi) (aCons (eVar 0) (aCons (eC (.con (.ty "bool"))) aNil)))) (eArgs (pIsi) (aCons (eVar 0) (aCons (eArgs mkTup (aCons (eC (.con (.ty "str"))) (aCons (eC (.con (.ty "int"))) aNil))) aNil))))))
def m_law_plain : List PV → Store → Res PV := fuelF 2 f_law_plain 60
abbrev N_law_bad_name : List Str := ["script", "source", "names"]
def f_law_bad_name : SM :=
  (sSeq (sSet 2 (eArgs mkLst (aCons (eC (.str "")) (aCons (eC (.str "A")) (aCons (eC (.str "1a")) (aCons (eC (.str "abcdefghijklm")) (aCons (eC (.str "a_b")) (aCons (eC (.str "a b")) (aCons (eC (.str "aB")) (aCons (eC (.str "a-")) (aCons (eC (.str "0")) (aCons (eC (.str "a(")) (aCons (eC (.str "a)")) (aCons (eC (.str "~")) (aCons (eC (.str "zzzzzzzzzzzzzzz")) aNil)))))))))))))))
    (sRet (eBin pIx (eVar 2) (eCall 3 m_law_draw (aCons (eVar 0) (aCons (eVar 1) (aCons (eArgs (one pLen) (aCons (eVar 2) aNil)) aNil)))))))
def m_law_bad_name : List PV → Store → Res PV := runBody 3 f_law_bad_name
abbrev N_law_spoilt_rows : List Str := ["script", "source", "rows", "at", "kind", "name", "owner", "weights", "other", "swapped_rows", "odd"]
def f_law_spoilt_rows : SM :=
  (sSeq (sSet 3 (eCall 3 m_law_draw (aCons (eVar 0) (aCons (eVar 1) (aCons (eArgs (one pLen) (aCons (eVar 2) aNil)) aNil)))))
    (sSeq (sTg (.tup [5, 6, 7]) (eBin pIx (eVar 2) (eVar 3)))
    (sSeq (sSet 4 (eCall 3 m_law_draw (aCons (eVar 0) (aCons (eVar 1) (aCons (eC (.int 5)) aNil)))))
    (sSeq (sIf (eTest (eBin pEq (eVar 4) (eC (.int 0)))) (sSet 5 (eCall 2 m_law_bad_name (aCons (eVar 0) (aCons (eVar 1) aNil)))) sNil)
    (sSeq (sIf (eTest (eBin pEq (eVar 4) (eC (.int 1)))) (sSeq (sSet 8 (eCall 3 m_law_draw (aCons (eVar 0) (aCons (eVar 1) (aCons (eArgs (one pLen) (aCons (eVar 2) aNil)) aNil)))))
    (sSeq (sSet 9 (eArgs (one pListLoc) (aCons (eVar 2) aNil)))
    (sSeq (sSub pSet (eVar 9) (eVar 3) (eBin pIx (eVar 2) (eVar 8)))
    (sSeq (sIf (eTest (eBin pEq (eCall 3 m_law_draw (aCons (eVar 0) (aCons (eVar 1) (aCons (eC (.int 2)) aNil)))) (eC (.int 0)))) (sSub pSet (eVar 9) (eVar 8) (eBin pIx (eVar 2) (eVar 3))) sNil)
    (sRet (eArgs (one pTuple) (aCons (eVar 9) aNil))))))) sNil)
    (sSeq (sIf (eTest (eBin pEq (eVar 4) (eC (.int 2)))) (sSet 6 (eBin pIx (eArgs mkLst (aCons (eC (.int 3)) (aCons (eUn pNeg (eC (.int 1))) (aCons (eC (.int 7)) (aCons (eBin pPow (eC (.int 10)) (eC (.int 20))) (aCons (eC (.int 0)) (aCons (eC (.int 1)) aNil))))))) (eCall 3 m_law_draw (aCons (eVar 0) (aCons (eVar 1) (aCons (eC (.int 6)) aNil)))))) sNil)
    (sSeq (sIf (eTest (eBin pEq (eVar 4) (eC (.int 3)))) (sSeq (sSet 10 (eArgs mkLst (aCons (eArgs mkTup aNil) (aCons (eArgs mkTup (aCons (eC (.int 0)) aNil)) (aCons (eArgs mkTup (aCons (eC (.int 2)) aNil)) (aCons (eArgs mkTup (aCons (eC (.int 2)) (aCons (eC (.int 2)) aNil))) (aCons (eArgs mkTup (aCons (eUn pNeg (eC (.int 1))) (aCons (eC (.int 1)) aNil))) (aCons (eArgs mkTup (aCons (eC (.int 1)) (aCons (eC (.int 0)) aNil))) (aCons (eArgs mkTup (aCons (eC (.int 1)) (aCons (eC (.int 2)) aNil))) (aCons (eArgs mkTup (aCons (eC (.int 6)) (aCons (eC (.int 10)) (aCons (eC (.int 15)) aNil)))) (aCons (eBin pMul (eArgs mkTup (aCons (eC (.int 1)) aNil)) (eC (.int 65))) (aCons (eBin pMul (eArgs mkTup (aCons (eC (.int 1)) aNil)) (eC (.int 64))) (aCons (eArgs mkTup (aCons (eC (.int 3)) (aCons (eC (.int 9)) aNil))) aNil)))))))))))))
    (sSeq (sSet 10 (eBin pAdd (eVar 10) (eArgs mkLst (aCons (eArgs mkTup (aCons (eBin pPow (eC (.int 10)) (eC (.int 39))) (aCons (eBin pMul (eC (.int 3)) (eBin pPow (eC (.int 10)) (eC (.int 39)))) aNil))) (aCons (eArgs mkTup (aCons (eBin pPow (eC (.int 10)) (eC (.int 39))) (aCons (eBin pAdd (eBin pPow (eC (.int 10)) (eC (.int 39))) (eC (.int 1))) aNil))) aNil)))))
    (sSet 7 (eBin pIx (eVar 10) (eCall 3 m_law_draw (aCons (eVar 0) (aCons (eVar 1) (aCons (eArgs (one pLen) (aCons (eVar 10) aNil)) aNil)))))))) sNil)
    (sSeq (sIf (eTest (eBin pEq (eVar 4) (eC (.int 4)))) (sSet 7 (eBin pAdd (eVar 7) (eArgs mkTup (aCons (eBin pAdd (eC (.int 1)) (eCall 3 m_law_draw (aCons (eVar 0) (aCons (eVar 1) (aCons (eC (.int 2)) aNil))))) aNil)))) sNil)
    (sRet (eBin pAdd (eBin pAdd (eSl pSl (eVar 2) oNone (oSome (eVar 3))) (eArgs mkTup (aCons (eArgs mkTup (aCons (eVar 5) (aCons (eVar 6) (aCons (eVar 7) aNil)))) aNil))) (eSl pSl (eVar 2) (oSome (eBin pAdd (eVar 3) (eC (.int 1)))) oNone)))))))))))
def m_law_spoilt_rows : List PV → Store → Res PV := runBody 11 f_law_spoilt_rows
abbrev N_law_spoilt_tree : List Str := ["script", "source", "rows", "tree", "names", "left", "down", "kind", "child"]
def f_law_spoilt_tree (self : List PV → Store → Res PV) : SM :=
  (sSeq (sSub pSet (eVar 5) (eC (.int 0)) (eBin pSub (eBin pIx (eVar 5) (eC (.int 0))) (eC (.int 1))))
    (sSeq (sIf (eTest (eBin pEq (eBin pIx (eVar 5) (eC (.int 0))) (eC (.int 0)))) (sSeq (sSet 7 (eCall 3 m_law_draw (aCons (eVar 0) (aCons (eVar 1) (aCons (eC (.int 5)) aNil)))))
    (sSeq (sIf (tAndM (eTest (eBin pEq (eVar 7) (eC (.int 0)))) (tNotM (eTest (eArgs (pIsi) (aCons (eVar 3) (aCons (eC (.con (.ty "str"))) aNil)))))) (sRet (eArgs mkTup (aCons (eBin pAdd (eCall 3 m_law_name (aCons (eVar 0) (aCons (eVar 1) (aCons (eVar 4) aNil)))) (eC (.str "q"))) (aCons (eBin pIx (eVar 3) (eC (.int 1))) aNil)))) sNil)
    (sSeq (sIf (tAndM (eTest (eBin pEq (eVar 7) (eC (.int 1)))) (tNotM (eTest (eArgs (pIsi) (aCons (eVar 3) (aCons (eC (.con (.ty "str"))) aNil)))))) (sRet (eArgs mkTup (aCons (eBin pIx (eVar 3) (eC (.int 0))) (aCons (eBin pAdd (eBin pIx (eVar 3) (eC (.int 1))) (eSl pSl (eBin pIx (eVar 3) (eC (.int 1))) oNone (oSome (eC (.int 1))))) aNil)))) sNil)
    (sSeq (sIf (tAndM (eTest (eBin pEq (eVar 7) (eC (.int 2)))) (tNotM (eTest (eArgs (pIsi) (aCons (eVar 3) (aCons (eC (.con (.ty "str"))) aNil)))))) (sRet (eArgs mkTup (aCons (eBin pIx (eVar 3) (eC (.int 0))) (aCons (eSl pSl (eBin pIx (eVar 3) (eC (.int 1))) oNone (oSome (eUn pNeg (eC (.int 1))))) aNil)))) sNil)
    (sSeq (sIf (tAndM (eTest (eBin pEq (eVar 7) (eC (.int 3)))) (eTest (eBin pGt (eArgs (one pLen) (aCons (eVar 4) aNil)) (eC (.int 0))))) (sRet (eArgs mkTup (aCons (eBin pIx (eVar 4) (eCall 3 m_law_draw (aCons (eVar 0) (aCons (eVar 1) (aCons (eArgs (one pLen) (aCons (eVar 4) aNil)) aNil))))) (aCons (eArgs mkTup (aCons (eVar 3) (aCons (eVar 3) aNil))) aNil)))) sNil)
    (sRet (eCall 2 m_law_bad_name (aCons (eVar 0) (aCons (eVar 1) aNil))))))))) sNil)
    (sSeq (sIf (eTest (eArgs (pIsi) (aCons (eVar 3) (aCons (eC (.con (.ty "str"))) aNil)))) (sRet (eVar 3)) sNil)
    (sSeq (sSet 6 (eBin pAdd (eVar 4) (eArgs mkLst (aCons (eBin pIx (eVar 3) (eC (.int 0))) aNil))))
    (sRet (eArgs mkTup (aCons (eBin pIx (eVar 3) (eC (.int 0))) (aCons (eArgs (one pTuple) (aCons (eComp [8] (iVal (eBin pIx (eVar 3) (eC (.int 1)))) (.one 8) tYesM (eCall 6 self (aCons (eVar 0) (aCons (eVar 1) (aCons (eVar 2) (aCons (eVar 8) (aCons (eVar 6) (aCons (eVar 5) aNil)))))))) aNil)) aNil))))))))
def m_law_spoilt_tree : List PV → Store → Res PV := fuelF 9 f_law_spoilt_tree 60
abbrev N_law_is_name : List Str := ["word", "letters", "sign"]
def f_law_is_name : SM :=
  (sSeq (sSet 1 (eC (.str "abcdefghijklmnopqrstuvwxyz")))
    (sSeq (sIf (tOrM (tNotM (eTest (eChain pLe pLe (eC (.int 1)) (eArgs (one pLen) (aCons (eVar 0) aNil)) (eC (.int 12))))) (eTest (eBin pNotIn (eBin pIx (eVar 0) (eC (.int 0))) (eVar 1)))) (sRet (eC (.bl false))) sNil)
    (sRet (eBin pEq (eArgs (one pLen) (aCons (eComp [2] (iVal (eVar 0)) (.one 2) (tAndM (eTest (eBin pNotIn (eVar 2) (eVar 1))) (eTest (eBin pNotIn (eVar 2) (eC (.str "0123456789"))))) (eVar 2)) aNil)) (eC (.int 0))))))
def m_law_is_name : List PV → Store → Res PV := runBody 3 f_law_is_name
abbrev N_law_row_fault : List Str := ["rows", "at", "common", "weight", "name", "owner", "weights"]
def f_law_row_fault : SM :=
  (sSeq (sTg (.tup [4, 5, 6]) (eBin pIx (eVar 0) (eVar 1)))
    (sSeq (sIf (tNotM (eTest (eCall 1 m_law_is_name (aCons (eVar 4) aNil)))) (sRet (eC (.str "name"))) sNil)
    (sSeq (sIf (tAndM (eTest (eBin pGt (eVar 1) (eC (.int 0)))) (eTest (eBin pGe (eBin pIx (eBin pIx (eVar 0) (eBin pSub (eVar 1) (eC (.int 1)))) (eC (.int 0))) (eVar 4)))) (sRet (eC (.str "order"))) sNil)
    (sSeq (sIf (tOrM (eTest (eBin pLt (eVar 5) (eC (.int 0)))) (eTest (eBin pGt (eVar 5) (eC (.int 2))))) (sRet (eC (.str "owner"))) sNil)
    (sSeq (sIf (tOrM (tNotM (eTest (eChain pLe pLe (eC (.int 1)) (eArgs (one pLen) (aCons (eVar 6) aNil)) (eC (.int 64))))) (tOrM (eTest (eBin pLt (eArgs (one pMin) (aCons (eVar 6) aNil)) (eC (.int 1)))) (tAndM (eTest (eBin pGt (eVar 5) (eC (.int 0)))) (eTest (eBin pGt (eArgs (one pMax) (aCons (eVar 6) aNil)) (eC (.int 1))))))) (sRet (eC (.str "weights"))) sNil)
    (sSeq (sSet 2 (eC (.int 0)))
    (sSeq (sFor (iVal (eVar 6)) (.one 3)
    (sSet 2 (eCall 2 m_law_gcd (aCons (eVar 3) (aCons (eVar 2) aNil)))))
    (sSeq (sIf (eTest (eBin pNe (eVar 2) (eC (.int 1)))) (sRet (eC (.str "weights"))) sNil)
    (sRet (eC (.str "")))))))))))
def m_law_row_fault : List PV → Store → Res PV := runBody 7 f_law_row_fault
abbrev N_law_node_fault : List Str := ["rows", "tree", "path", "names", "weights", "move", "fault", "row"]
def f_law_node_fault (self : List PV → Store → Res PV) : SM :=
  (sSeq (sIf (eTest (eArgs (pIsi) (aCons (eVar 1) (aCons (eC (.con (.ty "str"))) aNil)))) (sSeq (sIf (eTest (eCall 1 m_law_is_name (aCons (eVar 1) aNil))) (sRet (eC .non)) sNil)
    (sRet (eArgs mkTup (aCons (eC (.str "tree")) (aCons (eVar 2) (aCons (eC (.str "outcome")) aNil)))))) sNil)
    (sSeq (sSet 4 (eComp [7] (iVal (eVar 0)) (.one 7) (eTest (eBin pEq (eBin pIx (eVar 7) (eC (.int 0))) (eBin pIx (eVar 1) (eC (.int 0))))) (eBin pIx (eVar 7) (eC (.int 2)))))
    (sSeq (sIf (eTest (eBin pEq (eArgs (one pLen) (aCons (eVar 4) aNil)) (eC (.int 0)))) (sRet (eArgs mkTup (aCons (eC (.str "tree")) (aCons (eVar 2) (aCons (eC (.str "undeclared")) aNil))))) sNil)
    (sSeq (sIf (eTest (eBin pNe (eArgs (one pLen) (aCons (eBin pIx (eVar 4) (eC (.int 0))) aNil)) (eArgs (one pLen) (aCons (eBin pIx (eVar 1) (eC (.int 1))) aNil)))) (sRet (eArgs mkTup (aCons (eC (.str "tree")) (aCons (eVar 2) (aCons (eC (.str "count")) aNil))))) sNil)
    (sSeq (sIf (eTest (eBin pIn (eBin pIx (eVar 1) (eC (.int 0))) (eVar 3))) (sRet (eArgs mkTup (aCons (eC (.str "tree")) (aCons (eVar 2) (aCons (eC (.str "repeated")) aNil))))) sNil)
    (sSeq (sFor (iRange1 (eArgs (one pLen) (aCons (eBin pIx (eVar 1) (eC (.int 1))) aNil))) (.one 5)
    (sSeq (sSet 6 (eCall 4 self (aCons (eVar 0) (aCons (eBin pIx (eBin pIx (eVar 1) (eC (.int 1))) (eVar 5)) (aCons (eBin pAdd (eVar 2) (eArgs mkTup (aCons (eVar 5) aNil))) (aCons (eBin pAdd (eVar 3) (eArgs mkLst (aCons (eBin pIx (eVar 1) (eC (.int 0))) aNil))) aNil))))))
    (sIf (eTest (eBin pIsNot (eVar 6) (eC .non))) (sRet (eVar 6)) sNil)))
    (sRet (eC .non))))))))
def m_law_node_fault : List PV → Store → Res PV := fuelF 8 f_law_node_fault 60
abbrev N_law_due : List Str := ["rows", "tree", "at", "kind"]
def f_law_due : SM :=
  (sSeq (sFor (iRange1 (eArgs (one pLen) (aCons (eVar 0) aNil))) (.one 2)
    (sSeq (sSet 3 (eCall 2 m_law_row_fault (aCons (eVar 0) (aCons (eVar 2) aNil))))
    (sIf (eTest (eBin pNe (eVar 3) (eC (.str "")))) (sRet (eArgs mkTup (aCons (eC (.str "sets")) (aCons (eVar 2) (aCons (eVar 3) aNil))))) sNil)))
    (sRet (eCall 4 m_law_node_fault (aCons (eVar 0) (aCons (eVar 1) (aCons (eArgs mkTup aNil) (aCons (eArgs mkLst aNil) aNil)))))))
def m_law_due : List PV → Store → Res PV := runBody 4 f_law_due
abbrev N_law_size : List Str := ["tree", "child"]
def f_law_size (self : List PV → Store → Res PV) : SM :=
  (sSeq (sIf (eTest (eArgs (pIsi) (aCons (eVar 0) (aCons (eC (.con (.ty "str"))) aNil)))) (sRet (eC (.int 1))) sNil)
    (sRet (eBin pAdd (eC (.int 1)) (eArgs (one pSum) (aCons (eComp [1] (iVal (eBin pIx (eVar 0) (eC (.int 1)))) (.one 1) tYesM (eCall 1 self (aCons (eVar 1) aNil))) aNil)))))
def m_law_size : List PV → Store → Res PV := fuelF 2 f_law_size 60
abbrev N_law_spine : List Str := ["script", "source", "free", "outcomes", "room", "deep", "row", "rest", "on", "also", "children", "move", "other"]
def f_law_spine (self : List PV → Store → Res PV) : SM :=
  (sSeq (sSet 6 (eBin pIx (eVar 2) (eCall 3 m_law_draw (aCons (eVar 0) (aCons (eVar 1) (aCons (eArgs (one pLen) (aCons (eVar 2) aNil)) aNil))))))
    (sSeq (sSet 7 (eComp [12] (iVal (eVar 2)) (.one 12) (eTest (eBin pNe (eBin pIx (eVar 12) (eC (.int 0))) (eBin pIx (eVar 6) (eC (.int 0))))) (eVar 12)))
    (sSeq (sSub pSet (eVar 4) (eC (.int 0)) (eBin pSub (eBin pIx (eVar 4) (eC (.int 0))) (eArgs (one pLen) (aCons (eBin pIx (eVar 6) (eC (.int 2))) aNil))))
    (sSeq (sSet 8 (eCall 3 m_law_draw (aCons (eVar 0) (aCons (eVar 1) (aCons (eArgs (one pLen) (aCons (eBin pIx (eVar 6) (eC (.int 2))) aNil)) aNil)))))
    (sSeq (sSet 9 (eCall 3 m_law_draw (aCons (eVar 0) (aCons (eVar 1) (aCons (eArgs (one pLen) (aCons (eBin pIx (eVar 6) (eC (.int 2))) aNil)) aNil)))))
    (sSeq (sSet 10 (eArgs mkLoc aNil))
    (sSeq (sFor (iRange1 (eArgs (one pLen) (aCons (eBin pIx (eVar 6) (eC (.int 2))) aNil))) (.one 11)
    (sIf (tAndM (eTest (eBin pIn (eVar 11) (eArgs mkTup (aCons (eVar 8) (aCons (eVar 9) aNil))))) (tAndM (eTest (eBin pGt (eVar 5) (eC (.int 1)))) (tAndM (eTest (eBin pGt (eArgs (one pLen) (aCons (eVar 7) aNil)) (eC (.int 0)))) (eTest (eBin pGe (eBin pIx (eVar 4) (eC (.int 0))) (eC (.int 64))))))) (sExpr (eMeth isListP pAppend (eVar 10) (aCons (eCall 6 self (aCons (eVar 0) (aCons (eVar 1) (aCons (eVar 7) (aCons (eVar 3) (aCons (eVar 4) (aCons (eBin pIx (eArgs mkLst (aCons (eC (.int 1)) (aCons (eBin pSub (eVar 5) (eC (.int 1))) aNil))) (eArgs (one pInt) (aCons (eBin pEq (eVar 11) (eVar 8)) aNil))) aNil))))))) aNil))) (sExpr (eMeth isListP pAppend (eVar 10) (aCons (eBin pIx (eVar 3) (eCall 3 m_law_draw (aCons (eVar 0) (aCons (eVar 1) (aCons (eArgs (one pLen) (aCons (eVar 3) aNil)) aNil))))) aNil)))))
    (sRet (eArgs mkTup (aCons (eBin pIx (eVar 6) (eC (.int 0))) (aCons (eArgs (one pTuple) (aCons (eVar 10) aNil)) aNil)))))))))))
def m_law_spine : List PV → Store → Res PV := fuelF 13 f_law_spine 60
abbrev N_law_wide : List Str := ["script", "source", "signs", "stem", "rows", "used", "k", "outcomes", "count", "owner", "weights", "base", "name", "turn", "great", "at", "j"]
def f_law_wide : SM :=
  (sSeq (sSet 2 (eC (.str "abcdefghijklmnopqrstuvwxyz0123456789")))
    (sSeq (sSet 3 (eMeth isStrP pJoin (eC (.str "")) (aCons (eComp [6] (iRange1 (eC (.int 9))) (.one 6) tYesM (eBin pIx (eVar 2) (eCall 3 m_law_draw (aCons (eVar 0) (aCons (eVar 1) (aCons (eC (.int 36)) aNil)))))) aNil)))
    (sSeq (sSet 4 (eArgs mkLoc aNil))
    (sSeq (sSet 5 (eArgs mkLoc aNil))
    (sSeq (sFor (iRange1 (eBin pIx (eArgs mkLst (aCons (eC (.int 40)) (aCons (eC (.int 40)) (aCons (eC (.int 11)) (aCons (eBin pAdd (eC (.int 1)) (eCall 3 m_law_draw (aCons (eVar 0) (aCons (eVar 1) (aCons (eC (.int 40)) aNil))))) aNil))))) (eCall 3 m_law_draw (aCons (eVar 0) (aCons (eVar 1) (aCons (eC (.int 4)) aNil)))))) (.one 6)
    (sSeq (sSet 8 (eBin pIx (eArgs mkLst (aCons (eC (.int 2)) (aCons (eC (.int 1)) (aCons (eC (.int 3)) (aCons (eC (.int 2)) (aCons (eBin pAdd (eC (.int 1)) (eCall 3 m_law_draw (aCons (eVar 0) (aCons (eVar 1) (aCons (eC (.int 64)) aNil))))) (aCons (eC (.int 2)) (aCons (eC (.int 12)) (aCons (eC (.int 64)) aNil))))))))) (eCall 3 m_law_draw (aCons (eVar 0) (aCons (eVar 1) (aCons (eC (.int 8)) aNil))))))
    (sSeq (sSet 9 (eCall 3 m_law_draw (aCons (eVar 0) (aCons (eVar 1) (aCons (eC (.int 3)) aNil)))))
    (sSeq (sSet 10 (eCompLoc [16] (iRange1 (eVar 8)) (.one 16) tYesM (eC (.int 1))))
    (sSeq (sIf (eTest (eBin pEq (eVar 9) (eC (.int 0)))) (sSeq (sSet 10 (eCompLoc [16] (iRange1 (eVar 8)) (.one 16) tYesM (eBin pAdd (eC (.int 1)) (eCall 3 m_law_draw (aCons (eVar 0) (aCons (eVar 1) (aCons (eC (.int 5)) aNil)))))))
    (sSeq (sSet 14 (eArgs mkLst (aCons (eC (.int 1)) (aCons (eBin pSub (eBin pSub (eBin pPow (eC (.int 10)) (eC (.int 40))) (eC (.int 1))) (eCall 3 m_law_draw (aCons (eVar 0) (aCons (eVar 1) (aCons (eC (.int 1000)) aNil))))) (aCons (eBin pAdd (eC (.int 1)) (eCall 3 m_law_draw (aCons (eVar 0) (aCons (eVar 1) (aCons (eBin pSub (eBin pPow (eC (.int 10)) (eC (.int 40))) (eC (.int 1))) aNil))))) (aCons (eC (.int 6)) aNil))))))
    (sSeq (sSet 15 (eCall 3 m_law_draw (aCons (eVar 0) (aCons (eVar 1) (aCons (eVar 8) aNil)))))
    (sSub pSet (eVar 10) (eVar 15) (eBin pIx (eVar 14) (eCall 3 m_law_draw (aCons (eVar 0) (aCons (eVar 1) (aCons (eC (.int 4)) aNil))))))))) sNil)
    (sSeq (sSet 11 (eBin pAdd (eCall 3 m_law_name (aCons (eVar 0) (aCons (eVar 1) (aCons (eArgs mkLst aNil) aNil)))) (eSl pSl (eVar 3) oNone (oSome (eCall 3 m_law_draw (aCons (eVar 0) (aCons (eVar 1) (aCons (eC (.int 10)) aNil))))))))
    (sSeq (sSet 12 (eVar 11))
    (sSeq (sFor (iRange1 (eBin pAdd (eArgs (one pLen) (aCons (eVar 5) aNil)) (eC (.int 1)))) (.one 13)
    (sIf (eTest (eBin pIn (eVar 12) (eVar 5))) (sSet 12 (eBin pAdd (eSl pSl (eVar 11) oNone (oSome (eC (.int 10)))) (eArgs (one pStr) (aCons (eVar 13) aNil)))) sNil))
    (sSeq (sExpr (eMeth isListP pAppend (eVar 5) (aCons (eVar 12) aNil)))
    (sExpr (eMeth isListP pAppend (eVar 4) (aCons (eArgs mkTup (aCons (eVar 12) (aCons (eVar 9) (aCons (eCall 1 m_law_reduced (aCons (eVar 10) aNil)) aNil)))) aNil))))))))))))
    (sSeq (sSet 4 (eArgs (one pSorted) (aCons (eVar 4) aNil)))
    (sSeq (sSet 7 (eArgs mkLst (aCons (eCall 3 m_law_name (aCons (eVar 0) (aCons (eVar 1) (aCons (eArgs mkLst aNil) aNil)))) (aCons (eBin pAdd (eC (.str "x")) (eVar 3)) (aCons (eBin pIx (eVar 5) (eCall 3 m_law_draw (aCons (eVar 0) (aCons (eVar 1) (aCons (eArgs (one pLen) (aCons (eVar 5) aNil)) aNil))))) aNil)))))
    (sRet (eArgs mkTup (aCons (eArgs (one pTuple) (aCons (eVar 4) aNil)) (aCons (eCall 6 m_law_spine (aCons (eVar 0) (aCons (eVar 1) (aCons (eVar 4) (aCons (eVar 7) (aCons (eArgs mkLoc (aCons (eC (.int 379)) aNil)) (aCons (eC (.int 9)) aNil))))))) aNil)))))))))))
def m_law_wide : List PV → Store → Res PV := runBody 17 f_law_wide
abbrev N_law_spoilt : List Str := ["script", "source", "game", "k", "rows", "tree", "left", "spoilt"]
def f_law_spoilt : SM :=
  (sSeq (sTg (.tup [4, 5]) (eVar 2))
    (sSeq (sFor (iRange1 (eCall 3 m_law_draw (aCons (eVar 0) (aCons (eVar 1) (aCons (eC (.int 4)) aNil))))) (.one 3)
    (sIf (tAndM (eTest (eBin pGt (eArgs (one pLen) (aCons (eVar 4) aNil)) (eC (.int 0)))) (eTest (eBin pEq (eCall 3 m_law_draw (aCons (eVar 0) (aCons (eVar 1) (aCons (eC (.int 3)) aNil)))) (eC (.int 0))))) (sSet 4 (eCall 3 m_law_spoilt_rows (aCons (eVar 0) (aCons (eVar 1) (aCons (eVar 4) aNil))))) (sSeq (sSet 6 (eArgs mkLoc (aCons (eBin pAdd (eC (.int 1)) (eCall 3 m_law_draw (aCons (eVar 0) (aCons (eVar 1) (aCons (eCall 1 m_law_size (aCons (eVar 5) aNil)) aNil))))) aNil)))
    (sSeq (sSet 7 (eCall 6 m_law_spoilt_tree (aCons (eVar 0) (aCons (eVar 1) (aCons (eVar 4) (aCons (eVar 5) (aCons (eArgs mkLst aNil) (aCons (eVar 6) aNil))))))))
    (sIf (eTest (eBin pLe (eCall 1 m_law_size (aCons (eVar 7) aNil)) (eC (.int 400)))) (sSet 5 (eVar 7)) sNil)))))
    (sRet (eArgs mkTup (aCons (eVar 4) (aCons (eVar 5) aNil))))))
def m_law_spoilt : List PV → Store → Res PV := runBody 8 f_law_spoilt
abbrev N_law_agrees : List Str := ["rows", "tree", "due", "actual", "raised", "told", "e", "odd"]
def f_law_agrees : SM :=
  (sSeq (sSet 2 (eCall 2 m_law_due (aCons (eVar 0) (aCons (eVar 1) aNil))))
    (sSeq (sSet 3 (eCall 1 m_first_fault (aCons (eArgs mkTup (aCons (eVar 0) (aCons (eVar 1) aNil))) aNil)))
    (sSeq (sSet 4 (eArgs mkLst aNil))
    (sSeq (sSet 5 (eC .non))
    (sSeq (sTry 6 "BadGame" (sSet 5 (eCallX 1 m_check_game (aCons (eArgs mkTup (aCons (eVar 0) (aCons (eVar 1) aNil))) aNil)))
    (fun a d => (sSeq (sSet 7 (eIsE a d false (eVar 6)))
    (sSeq (sSet 4 (eArgs mkLst (aCons (eC (.str "odd")) aNil)))
    (sIf (tAndM (eTest (eIsE a d true (eVar 6))) (tAndM (eTest (eIsE a d true (eVar 6))) (tNotM (eTest (eVar 7))))) (sSet 4 (eArgs mkLst (aCons (eXf a d "fault" (eVar 6)) aNil))) sNil)))))
    (sSeq (sIf (eTest (eBin pIs (eVar 2) (eC .non))) (sRet (eAndV (eBin pIs (eVar 3) (eC .non)) (eAndV (eBin pEq (eVar 4) (eArgs mkLst aNil)) (eBin pIs (eVar 5) (eC .non))))) sNil)
    (sSeq (sIf (tOrM (tNotM (eTest (eCall 1 m_law_plain (aCons (eArgs (one pTuple) (aCons (eVar 4) aNil)) aNil)))) (tOrM (eTest (eBin pNe (eVar 4) (eArgs mkLst (aCons (eVar 2) aNil)))) (eTest (eBin pNe (eVar 2) (eVar 2))))) (sRet (eC (.bl false))) sNil)
    (sRet (eAndV (eCall 1 m_law_plain (aCons (eVar 3) aNil)) (eBin pEq (eVar 3) (eVar 2)))))))))))
def m_law_agrees : List PV → Store → Res PV := runBody 8 f_law_agrees
abbrev N_law : List Str := ["script", "source", "rows", "tree"]
def f_law : SM :=
  (sSeq (sSet 1 (eCall 1 m_law_source (aCons (eVar 0) aNil)))
    (sSeq (sTg (.tup [2, 3]) (eCall 3 m_law_spoilt (aCons (eVar 0) (aCons (eVar 1) (aCons (eCall 5 m_law_game (aCons (eVar 0) (aCons (eVar 1) (aCons (eC (.int 5)) (aCons (eC (.int 32)) (aCons (eC (.int 40)) aNil)))))) aNil)))))
    (sSeq (sIf (tNotM (eTest (eCall 2 m_law_agrees (aCons (eVar 2) (aCons (eVar 3) aNil))))) (sRet (eC (.bl false))) sNil)
    (sSeq (sIf (eTest (eBin pGt (eCall 3 m_law_draw (aCons (eVar 0) (aCons (eVar 1) (aCons (eC (.int 3)) aNil)))) (eC (.int 0)))) (sRet (eC (.bl true))) sNil)
    (sSeq (sTg (.tup [2, 3]) (eCall 3 m_law_spoilt (aCons (eVar 0) (aCons (eVar 1) (aCons (eCall 2 m_law_wide (aCons (eVar 0) (aCons (eVar 1) aNil))) aNil)))))
    (sRet (eCall 2 m_law_agrees (aCons (eVar 2) (aCons (eVar 3) aNil)))))))))
def m_law : List PV → Store → Res PV := runBody 4 f_law
end
end PL
/-! PL, part n: the drawing of scripts. -/
namespace PL
open PySem PySem.Spec PyProof.Rows L2
abbrev scr (ns : List Int) : PV := .frz (ns.map .int)
/-- the source's place -/
def SrcAt (st : Store) (l : Nat) : Prop := ∃ a b c : Int, st[l]? = some (.lst [.int a, .int b, .int c]) ∧ 0 ≤ a
theorem ixN3_0 : ixN 3 0 = some 0 := rfl
theorem ixN3_1 : ixN 3 1 = some 1 := rfl
theorem ixN3_2 : ixN 3 2 = some 2 := rfl
theorem log97 : (Nat.log2 97 < 9000) = True := eq_true (by decide)
theorem draw_ok {ns : List Int} {l : Nat} {lim : Int} {st : Store} (hs : SrcAt st l) (hl : 0 < lim) (hl2 : lim.natAbs.log2 < 9000) :
    Sat (m_law_draw [scr ns, .loc l, .int lim] st) fun v s => ∃ r o, v = .int r ∧ 0 ≤ r ∧ r < lim ∧ s = st.set l o ∧ SrcAt s l := by
  obtain ⟨a, b, c, hs, ha⟩ := hs
  refine sat_body ?_
  unfold f_law_draw
  have hlt : l < st.length := (List.getElem?_eq_some_iff.mp hs).1
  have g : ∀ o, (st.set l o)[l]? = some o := fun o => List.getElem?_set_self hlt
  have ss : ∀ o o', (st.set l o).set l o' = st.set l o' := fun o o' => List.set_set ..
  have fin1 : ∀ a b c : Int, 0 ≤ a → 0 < b → ∃ r o, PV.int (b % lim) = .int r ∧ 0 ≤ r ∧ r < lim ∧ st.set l (.lst [.int a, .int (b / lim), .int c]) = st.set l o ∧ SrcAt (st.set l (.lst [.int a, .int (b / lim), .int c])) l :=
    fun a b c h0 h1 => ⟨_, _, rfl, Int.emod_nonneg _ (by omega), Int.emod_lt_of_pos _ hl, rfl, a, _, c, g _, h0⟩
  have fin2 : ∀ a b c : Int, 0 ≤ a → ∃ r o, PV.int (c % 2147483647 / 97 % lim) = .int r ∧ 0 ≤ r ∧ r < lim ∧ st.set l (.lst [.int a, .int b, .int (c % 2147483647)]) = st.set l o ∧ SrcAt (st.set l (.lst [.int a, .int b, .int (c % 2147483647)])) l :=
    fun a b c h0 => ⟨_, _, rfl, Int.emod_nonneg _ (by omega), Int.emod_lt_of_pos _ hl, rfl, a, b, _, g _, h0⟩
  have p64 : ∀ n : Nat, n < 18446744073709551616 → n < 2 ^ 64 := fun n h => by simpa using h
  have m64 : ∀ x : Int, ((x % 2147483647).natAbs < 18446744073709551616) = True := fun x => eq_true (by
    have := Int.emod_nonneg x (show (2147483647 : Int) ≠ 0 by decide)
    have := Int.emod_lt_of_pos x (show (0 : Int) < 2147483647 by decide)
    omega)
  by_cases hb : b = 0
  · by_cases ha2 : a < (ns.length : Int)
    · obtain ⟨k, rfl⟩ := Int.eq_ofNat_of_zero_le ha
      have hk : k < ns.length := by omega
      have e : (ns.map PV.int)[k]? = some (.int ns[k]) := by rw [List.getElem?_map, List.getElem?_eq_getElem hk]; rfl
      simp only [sat_ok, sat_bind, sat_v, sat_c, sat_bin, sat_un, sat_test, sat_truth, sat_and, sat_or, sat_not, sat_yes, sat_andv, sat_notv, sat_chain, sat_nil, sat_cons, sat_args, sat_call, sat_callX, sat_meth, sat_one, sat_oNone, sat_oSome, sat_sl, sat_tup, sat_lst, sat_loc, ss_nil, ss_seq, ss_set, ss_expr, ss_ret, ss_retN, ss_if, ss_tg, ss_par, ss_sub, ss_for, sat_comp, setTg, setTgs, wipeP, sizeLine_eq, List.map_cons, List.map_nil, List.length_cons, List.length_nil, List.cons_append, List.nil_append, List.set_cons_zero, List.set_cons_succ, List.getElem?_cons_zero, List.getElem?_cons_succ, Nat.reduceAdd, Nat.reduceSub, Nat.reduceLeDiff, List.reduceReplicate, Option.some.injEq, exists_eq_left', true_and, and_true, Nat.zero_add, o_addI, o_addS, o_addT, o_addL, o_subI, o_mulI, o_fdivI, o_modI, o_powI, o_negI, o_eqI, o_neI, o_eqS, o_neS, o_ltI, o_gtI, o_leI, o_geI, o_ltS, o_geS, o_inS, o_notInS, o_isN, o_isNotN, o_isT, o_isNotT, o_isS, o_isNotS, o_int, o_intB, o_abs, o_str, o_lenT, o_lenL, o_lenF, o_lenS, o_ixT, o_ixL, o_ixF, ixW_0, ixW_1, ixW_2, o_isStr, o_tupL, o_tupT, o_listT, o_listL, o_listLocT, o_gcd, o_bits, o_finF, o_finT, sat_iVal, sat_iEnum, sat_iRange1, sat_iRange2, o_itT, o_itL, o_itF, o_itS, o_enT, o_rng, o_ixP hs, o_set hs, hb, decide_true, if_true, List.length_map, decide_eq_true ha2]
      refine ixW_of e ?_
      simp only [sat_ok, sat_bind, sat_v, sat_c, sat_bin, sat_un, sat_test, sat_truth, sat_and, sat_or, sat_not, sat_yes, sat_andv, sat_notv, sat_chain, sat_nil, sat_cons, sat_args, sat_call, sat_callX, sat_meth, sat_one, sat_oNone, sat_oSome, sat_sl, sat_tup, sat_lst, sat_loc, ss_nil, ss_seq, ss_set, ss_expr, ss_ret, ss_retN, ss_if, ss_tg, ss_par, ss_sub, ss_for, sat_comp, setTg, setTgs, wipeP, sizeLine_eq, List.map_cons, List.map_nil, List.length_cons, List.length_nil, List.cons_append, List.nil_append, List.set_cons_zero, List.set_cons_succ, List.getElem?_cons_zero, List.getElem?_cons_succ, Nat.reduceAdd, Nat.reduceSub, Nat.reduceLeDiff, List.reduceReplicate, Option.some.injEq, exists_eq_left', true_and, and_true, Nat.zero_add, o_addI, o_addS, o_addT, o_addL, o_subI, o_mulI, o_fdivI, o_modI, o_powI, o_negI, o_eqI, o_neI, o_eqS, o_neS, o_ltI, o_gtI, o_leI, o_geI, o_ltS, o_geS, o_inS, o_notInS, o_isN, o_isNotN, o_isT, o_isNotT, o_isS, o_isNotS, o_int, o_intB, o_abs, o_str, o_lenT, o_lenL, o_lenF, o_lenS, o_ixT, o_ixL, o_ixF, ixW_0, ixW_1, ixW_2, o_isStr, o_tupL, o_tupT, o_listT, o_listL, o_listLocT, o_gcd, o_bits, o_finF, o_finT, sat_iVal, sat_iEnum, sat_iRange1, sat_iRange2, o_itT, o_itL, o_itF, o_itS, o_enT, o_rng, Int.reduceLE, Int.reduceLT, nabs, Nat.reducePow, Nat.reduceLT, Int.reduceToNat, Int.reducePow, true_and, and_true, or_true, true_or, and_self, if_true, if_false, Bool.false_eq_true, decide_true, decide_false, not_false_eq_true, List.length_map, o_ixP hs, o_set hs, ixN3_0, ixN3_1, ixN3_2, o_ixP (g _), o_set (g _), ss, m64, hl, hl2, log97]
      generalize (if ns[k] < 0 then -ns[k] else ns[k]) = cell
      split
      · split
        · rename_i h
          refine fin1 _ _ _ ?_ (by simpa using h)
          omega
        · refine fin2 _ _ _ ?_
          omega
      · split
        · rename_i h
          refine fin1 _ _ _ ?_ (by simpa using h)
          omega
        · refine fin2 _ _ _ ?_
          omega
    · simp only [sat_ok, sat_bind, sat_v, sat_c, sat_bin, sat_un, sat_test, sat_truth, sat_and, sat_or, sat_not, sat_yes, sat_andv, sat_notv, sat_chain, sat_nil, sat_cons, sat_args, sat_call, sat_callX, sat_meth, sat_one, sat_oNone, sat_oSome, sat_sl, sat_tup, sat_lst, sat_loc, ss_nil, ss_seq, ss_set, ss_expr, ss_ret, ss_retN, ss_if, ss_tg, ss_par, ss_sub, ss_for, sat_comp, setTg, setTgs, wipeP, sizeLine_eq, List.map_cons, List.map_nil, List.length_cons, List.length_nil, List.cons_append, List.nil_append, List.set_cons_zero, List.set_cons_succ, List.getElem?_cons_zero, List.getElem?_cons_succ, Nat.reduceAdd, Nat.reduceSub, Nat.reduceLeDiff, List.reduceReplicate, Option.some.injEq, exists_eq_left', true_and, and_true, Nat.zero_add, o_addI, o_addS, o_addT, o_addL, o_subI, o_mulI, o_fdivI, o_modI, o_powI, o_negI, o_eqI, o_neI, o_eqS, o_neS, o_ltI, o_gtI, o_leI, o_geI, o_ltS, o_geS, o_inS, o_notInS, o_isN, o_isNotN, o_isT, o_isNotT, o_isS, o_isNotS, o_int, o_intB, o_abs, o_str, o_lenT, o_lenL, o_lenF, o_lenS, o_ixT, o_ixL, o_ixF, ixW_0, ixW_1, ixW_2, o_isStr, o_tupL, o_tupT, o_listT, o_listL, o_listLocT, o_gcd, o_bits, o_finF, o_finT, sat_iVal, sat_iEnum, sat_iRange1, sat_iRange2, o_itT, o_itL, o_itF, o_itS, o_enT, o_rng, Int.reduceLE, Int.reduceLT, nabs, Nat.reducePow, Nat.reduceLT, Int.reduceToNat, Int.reducePow, true_and, and_true, or_true, true_or, and_self, if_true, if_false, Bool.false_eq_true, decide_true, decide_false, not_false_eq_true, List.length_map, o_ixP hs, o_set hs, hb, decide_eq_false ha2, ixN3_0, ixN3_1, ixN3_2, o_ixP (g _), o_set (g _), ss, m64, hl, hl2, log97]
      exact fin2 _ _ _ ha
  · simp only [sat_ok, sat_bind, sat_v, sat_c, sat_bin, sat_un, sat_test, sat_truth, sat_and, sat_or, sat_not, sat_yes, sat_andv, sat_notv, sat_chain, sat_nil, sat_cons, sat_args, sat_call, sat_callX, sat_meth, sat_one, sat_oNone, sat_oSome, sat_sl, sat_tup, sat_lst, sat_loc, ss_nil, ss_seq, ss_set, ss_expr, ss_ret, ss_retN, ss_if, ss_tg, ss_par, ss_sub, ss_for, sat_comp, setTg, setTgs, wipeP, sizeLine_eq, List.map_cons, List.map_nil, List.length_cons, List.length_nil, List.cons_append, List.nil_append, List.set_cons_zero, List.set_cons_succ, List.getElem?_cons_zero, List.getElem?_cons_succ, Nat.reduceAdd, Nat.reduceSub, Nat.reduceLeDiff, List.reduceReplicate, Option.some.injEq, exists_eq_left', true_and, and_true, Nat.zero_add, o_addI, o_addS, o_addT, o_addL, o_subI, o_mulI, o_fdivI, o_modI, o_powI, o_negI, o_eqI, o_neI, o_eqS, o_neS, o_ltI, o_gtI, o_leI, o_geI, o_ltS, o_geS, o_inS, o_notInS, o_isN, o_isNotN, o_isT, o_isNotT, o_isS, o_isNotS, o_int, o_intB, o_abs, o_str, o_lenT, o_lenL, o_lenF, o_lenS, o_ixT, o_ixL, o_ixF, ixW_0, ixW_1, ixW_2, o_isStr, o_tupL, o_tupT, o_listT, o_listL, o_listLocT, o_gcd, o_bits, o_finF, o_finT, sat_iVal, sat_iEnum, sat_iRange1, sat_iRange2, o_itT, o_itL, o_itF, o_itS, o_enT, o_rng, Int.reduceLE, Int.reduceLT, nabs, Nat.reducePow, Nat.reduceLT, Int.reduceToNat, Int.reducePow, true_and, and_true, or_true, true_or, and_self, if_true, if_false, Bool.false_eq_true, decide_true, decide_false, not_false_eq_true, List.length_map, o_ixP hs, o_set hs, decide_eq_false hb, ixN3_0, ixN3_1, ixN3_2, o_ixP (g _), o_set (g _), ss, m64, hl, hl2, log97]
    split
    · rename_i h
      exact fin1 _ _ _ ha (by simpa using h)
    · exact fin2 _ _ _ ha
theorem source_ok {ns : List Int} {st : Store} : Sat (m_law_source [scr ns] st) fun v s => v = .loc st.length ∧ ∃ o, s = st ++ [o] ∧ SrcAt s st.length := by
  refine sat_body ?_
  unfold f_law_source
  simp only [sat_ok, sat_bind, sat_v, sat_c, sat_bin, sat_un, sat_test, sat_truth, sat_and, sat_or, sat_not, sat_yes, sat_andv, sat_notv, sat_chain, sat_nil, sat_cons, sat_args, sat_call, sat_callX, sat_meth, sat_one, sat_oNone, sat_oSome, sat_sl, sat_tup, sat_lst, sat_loc, ss_nil, ss_seq, ss_set, ss_expr, ss_ret, ss_retN, ss_if, ss_tg, ss_par, ss_sub, ss_for, sat_comp, setTg, setTgs, wipeP, sizeLine_eq, List.map_cons, List.map_nil, List.length_cons, List.length_nil, List.cons_append, List.nil_append, List.set_cons_zero, List.set_cons_succ, List.getElem?_cons_zero, List.getElem?_cons_succ, Nat.reduceAdd, Nat.reduceSub, Nat.reduceLeDiff, List.reduceReplicate, Option.some.injEq, exists_eq_left', true_and, and_true, Nat.zero_add, o_addI, o_addS, o_addT, o_addL, o_subI, o_mulI, o_fdivI, o_modI, o_powI, o_negI, o_eqI, o_neI, o_eqS, o_neS, o_ltI, o_gtI, o_leI, o_geI, o_ltS, o_geS, o_inS, o_notInS, o_isN, o_isNotN, o_isT, o_isNotT, o_isS, o_isNotS, o_int, o_intB, o_abs, o_str, o_lenT, o_lenL, o_lenF, o_lenS, o_ixT, o_ixL, o_ixF, ixW_0, ixW_1, ixW_2, o_isStr, o_tupL, o_tupT, o_listT, o_listL, o_listLocT, o_gcd, o_bits, o_finF, o_finT, sat_iVal, sat_iEnum, sat_iRange1, sat_iRange2, o_itT, o_itL, o_itF, o_itS, o_enT, o_rng]
  refine for_inv0 (fun e s => s = st ∧ ∃ (m : Int) (z : Option PV), e = [some (scr ns), some (.int m), z]) ⟨rfl, _, _, rfl⟩ ?_ ?_
  · rintro v e s hv ⟨rfl, m, z, rfl⟩
    obtain ⟨c, -, rfl⟩ := List.mem_map.mp hv
    simp only [sat_ok, sat_bind, sat_v, sat_c, sat_bin, sat_un, sat_test, sat_truth, sat_and, sat_or, sat_not, sat_yes, sat_andv, sat_notv, sat_chain, sat_nil, sat_cons, sat_args, sat_call, sat_callX, sat_meth, sat_one, sat_oNone, sat_oSome, sat_sl, sat_tup, sat_lst, sat_loc, ss_nil, ss_seq, ss_set, ss_expr, ss_ret, ss_retN, ss_if, ss_tg, ss_par, ss_sub, ss_for, sat_comp, setTg, setTgs, wipeP, sizeLine_eq, List.map_cons, List.map_nil, List.length_cons, List.length_nil, List.cons_append, List.nil_append, List.set_cons_zero, List.set_cons_succ, List.getElem?_cons_zero, List.getElem?_cons_succ, Nat.reduceAdd, Nat.reduceSub, Nat.reduceLeDiff, List.reduceReplicate, Option.some.injEq, exists_eq_left', true_and, and_true, Nat.zero_add, o_addI, o_addS, o_addT, o_addL, o_subI, o_mulI, o_fdivI, o_modI, o_powI, o_negI, o_eqI, o_neI, o_eqS, o_neS, o_ltI, o_gtI, o_leI, o_geI, o_ltS, o_geS, o_inS, o_notInS, o_isN, o_isNotN, o_isT, o_isNotT, o_isS, o_isNotS, o_int, o_intB, o_abs, o_str, o_lenT, o_lenL, o_lenF, o_lenS, o_ixT, o_ixL, o_ixF, ixW_0, ixW_1, ixW_2, o_isStr, o_tupL, o_tupT, o_listT, o_listL, o_listLocT, o_gcd, o_bits, o_finF, o_finT, sat_iVal, sat_iEnum, sat_iRange1, sat_iRange2, o_itT, o_itL, o_itF, o_itS, o_enT, o_rng, Int.reduceLE, Int.reduceLT, nabs, Nat.reducePow, Nat.reduceLT, Int.reduceToNat, Int.reducePow, true_and, and_true, or_true, true_or, and_self, if_true, if_false, Bool.false_eq_true, decide_true, decide_false, not_false_eq_true, List.length_map]
    exact ⟨_, _, rfl⟩
  · rintro e s ⟨rfl, m, z, rfl⟩
    simp only [sat_ok, sat_bind, sat_v, sat_c, sat_bin, sat_un, sat_test, sat_truth, sat_and, sat_or, sat_not, sat_yes, sat_andv, sat_notv, sat_chain, sat_nil, sat_cons, sat_args, sat_call, sat_callX, sat_meth, sat_one, sat_oNone, sat_oSome, sat_sl, sat_tup, sat_lst, sat_loc, ss_nil, ss_seq, ss_set, ss_expr, ss_ret, ss_retN, ss_if, ss_tg, ss_par, ss_sub, ss_for, sat_comp, setTg, setTgs, wipeP, sizeLine_eq, List.map_cons, List.map_nil, List.length_cons, List.length_nil, List.cons_append, List.nil_append, List.set_cons_zero, List.set_cons_succ, List.getElem?_cons_zero, List.getElem?_cons_succ, Nat.reduceAdd, Nat.reduceSub, Nat.reduceLeDiff, List.reduceReplicate, Option.some.injEq, exists_eq_left', true_and, and_true, Nat.zero_add, o_addI, o_addS, o_addT, o_addL, o_subI, o_mulI, o_fdivI, o_modI, o_powI, o_negI, o_eqI, o_neI, o_eqS, o_neS, o_ltI, o_gtI, o_leI, o_geI, o_ltS, o_geS, o_inS, o_notInS, o_isN, o_isNotN, o_isT, o_isNotT, o_isS, o_isNotS, o_int, o_intB, o_abs, o_str, o_lenT, o_lenL, o_lenF, o_lenS, o_ixT, o_ixL, o_ixF, ixW_0, ixW_1, ixW_2, o_isStr, o_tupL, o_tupT, o_listT, o_listL, o_listLocT, o_gcd, o_bits, o_finF, o_finT, sat_iVal, sat_iEnum, sat_iRange1, sat_iRange2, o_itT, o_itL, o_itF, o_itS, o_enT, o_rng, Int.reduceLE, Int.reduceLT, nabs, Nat.reducePow, Nat.reduceLT, Int.reduceToNat, Int.reducePow, true_and, and_true, or_true, true_or, and_self, if_true, if_false, Bool.false_eq_true, decide_true, decide_false, not_false_eq_true, List.length_map]
    exact ⟨_, rfl, 0, 0, m, by simp, by decide⟩
/-! ### names -/
theorem draw_len {P : PV → Prop} {xs : List PV} {r : Int} (h0 : 0 ≤ r) (h1 : r < xs.length) (p : ∀ y ∈ xs, P y) : ixW xs r P :=
  ixW_in h0 h1 fun y e => p y (List.mem_of_getElem? e)
theorem src_fr {st : Store} {l k : Nat} {o : PO} (h : k ≠ l) : (st.set l o)[k]? = st[k]? := List.getElem?_set_ne (Ne.symm h)
theorem set_self {st : Store} {l : Nat} {o : PO} (h : st[l]? = some o) : st.set l o = st := by
  obtain ⟨h1, h2⟩ := List.getElem?_eq_some_iff.mp h
  rw [← h2]
  exact List.set_getElem_self h1
theorem SrcAt.self {st : Store} {l : Nat} (h : SrcAt st l) : ∃ o, st = st.set l o := by
  obtain ⟨a, b, c, h, _⟩ := h
  exact ⟨_, (set_self h).symm⟩
/-- the texts in use, as a list that's read (of the store, or finished) -/
def Used (st : Store) (v : PV) (l : Nat) (n : Nat) : Prop := ∃ (us : List Str) (b : Bool), us.length ≤ n ∧ ∀ o, seqOf (st.set l o) v = some (b, us.map .str)
theorem Used.set {st : Store} {v : PV} {l n : Nat} {o : PO} (h : Used st v l n) : Used (st.set l o) v l n := by
  obtain ⟨us, b, h1, h2⟩ := h
  exact ⟨us, b, h1, fun o' => by rw [List.set_set]; exact h2 o'⟩
theorem isDs_str (us : List Str) : isDs (us.map .str) = true := by induction us <;> simp_all [isDs, isD]
theorem depth_str (us : List Str) : PyData.depthAll (toDs (us.map .str)) = 0 := by induction us <;> simp_all [toDs, toD, PyData.depthAll, PyData.depth]
theorem o_inUsed {x : Str} {st : Store} {v : PV} {b : Bool} {us : List Str} {Q : PV → Store → Prop} (h : seqOf st v = some (b, us.map .str)) : Sat (pIn (.str x) v st) Q = Q (.bl (decide (x ∈ us))) st := by
  have hv : ∀ z, v ≠ .str z := fun z e => by subst e; cases h
  have e : pIn (.str x) v st = match seqOf st v with
    | some (_, xs) => if isD (.str x) = true ∧ isDs xs = true ∧ min (PyData.depthAll (toDs xs)) (toD (.str x)).depth ≤ 60 then .ok (.bl (inD (.str x) xs)) st else .stuck
    | none => .stuck := by
    unfold pIn
    cases v with
    | str z => exact absurd rfl (hv z)
    | _ => rfl
  rw [e, h]
  show Sat (if _ then _ else _) Q = _
  rw [if_pos ⟨by simp [isD], isDs_str us, by simp [toD, PyData.depth]⟩]
  have : inD (.str x) (us.map .str) = decide (x ∈ us) := by
    unfold inD
    rw [List.any_map]
    rw [Bool.eq_iff_iff]
    simp only [List.any_eq_true, Function.comp, decide_eq_true_eq, toD, PyData.eqv, beq_iff_eq]
    constructor
    · rintro ⟨y, m, rfl⟩; exact m
    · exact fun m => ⟨x, m, rfl⟩
  rw [this, sat_ok]
theorem str_len (i : Int) (h : 0 ≤ i) (h2 : i < 1000) : (strInt i).length ≤ 10 := by
  obtain ⟨k, rfl⟩ := Int.eq_ofNat_of_zero_le h
  have hk : k < 1000 := by omega
  have : ∀ k : Fin 1000, (strInt (k.val : Int)).length ≤ 10 := by decide +kernel
  exact this ⟨k, hk⟩
theorem len_app (x y : Str) : (x ++ y).length = x.length + y.length := by
  show (Array.append _ _).size = _
  first | (simp; done) | (simp [Array.size_append]; rfl)
end PL
/-! PL, part p: drawn names. -/
namespace PL
open PySem PySem.Spec PyProof.Rows L2
theorem ixS_in {z : Str} {i : Int} {st : Store} {Q : PV → Store → Prop} (hz : z.length ≤ sizeLine) (h0 : 0 ≤ i) (h1 : i < z.length) (p : ∀ c, Q (.str ⟨#[c]⟩) st) : Sat (pIx (.str z) (.int i) st) Q := by
  obtain ⟨k, rfl⟩ := Int.eq_ofNat_of_zero_le h0
  have hk : k < z.cps.toList.length := by
    have : z.length = z.cps.size := rfl
    rw [Array.length_toList]; omega
  have e : atI z.cps.toList (k : Int) = some z.cps.toList[k] := by
    unfold atI ixN
    rw [if_pos (by omega), if_pos (by omega)]
    simp [List.getElem?_eq_getElem hk]
  show Sat (match (if z.length ≤ sizeLine then atI z.cps.toList (k : Int) else none) with | some c => .ok (.str ⟨#[c]⟩) st | none => .stuck) Q
  rw [if_pos hz, e]
  exact ⟨_, _, rfl, p _⟩
theorem len1 {c : Nat} : (⟨#[c]⟩ : Str).length = 1 := rfl
theorem lenLet : ("abcdefghijklmnopqrstuvwxyz" : Str).length = 26 := by decide +kernel
theorem lenDig : ("0123456789" : Str).length = 10 := by decide +kernel
theorem rngs_len {n : Nat} {lo : Int} : (rngs lo n).length = n := by simp [rngs]
theorem rngs_get {lo : Int} {n i : Nat} {v : PV} (h : (rngs lo n)[i]? = some v) : i < n ∧ v = .int (lo + i) := by
  unfold rngs at h
  rw [List.getElem?_map] at h
  by_cases hi : i < n
  · rw [List.getElem?_range hi] at h
    cases h
    exact ⟨hi, rfl⟩
  · rw [List.getElem?_eq_none (by simpa using hi)] at h
    cases h
theorem sl16 {n : Nat} (h : n ≤ 16777216) : n ≤ sizeLine := by rw [sizeLine_eq]; exact h
theorem log2_small {n : Nat} (h : n < 1024) : n.log2 < 1920 := by
  by_cases h0 : n = 0
  · rw [h0]; decide
  · exact Nat.lt_trans ((Nat.log2_lt h0).mpr (show n < 2 ^ 10 from h)) (by decide)
theorem name_rest {ns : List Int} {l n : Nat} {used : PV} {st : Store} {w : Option PV} (hu : Used st used l n) (hn : n ≤ 900) (z : Str) (o : PO) (a b : PV) (hz : z.length ≤ 3) (s5 : SrcAt (st.set l o) l) :
    Sat (pLen used (st.set l o)) fun v s => Sat (pAdd v (.int 1) s) fun v s => Sat (pRange1 [v] s) fun p s =>
        SatS (sForL (.one 6) (sIf (eTest (eBin pIn (eVar 5) (eVar 2))) (sSet 5 (eBin pAdd (eVar 7) (eArgs (one pStr) (aCons (eVar 6) aNil)))) sNil) p.ok p.xs
          [some (scr ns), some (.loc l), some used, some a, some b, some (.str z), w, some (.str z)] s)
          (fun e s => SatS (sRet (eVar 5) e s) (fun _ s => ∃ z o, PV.non = .str z ∧ z.length ≤ 20 ∧ s = st.set l o ∧ SrcAt s l) fun v s => ∃ z o, v = .str z ∧ z.length ≤ 20 ∧ s = st.set l o ∧ SrcAt s l)
          (fun v s => ∃ z o, v = .str z ∧ z.length ≤ 20 ∧ s = st.set l o ∧ SrcAt s l) := by
  obtain ⟨us, bb, hl, hus⟩ := hu
  have e1 : pLen used (st.set l o) = .ok (.int us.length) (st.set l o) := by
    have q := hus o
    unfold pLen
    cases used with
    | str x => cases q
    | _ => simp only [q, List.length_map]
  rw [e1, sat_ok, o_addI, o_rng]
  refine ⟨by omega, ?_⟩
  refine for_invN (k := 0) (fun i e s => ∃ z' w, e = [some (scr ns), some (.loc l), some used, some a, some b, some (.str z'), w, some (.str z)] ∧ z'.length ≤ 20 ∧ s = st.set l o)
    ⟨_, _, rfl, by omega, rfl⟩ ?_ ?_
  · rintro i v e s hv ⟨z', w', rfl, hz', rfl⟩
    obtain ⟨hi, rfl⟩ := rngs_get hv
    refine ⟨_, rfl, ?_⟩
    rw [ss_if, sat_test, sat_bin, sat_var rfl, sat_var rfl, o_inUsed (hus o), sat_truth]
    split
    · have q := str_len (0 + (i : Int)) (by omega) (by omega)
      rw [ss_set, sat_bin, sat_var rfl, sat_args, sat_cons, sat_var rfl, sat_nil, sat_one, o_str, o_addS]
      generalize strInt (0 + (i : Int)) = y at q ⊢
      exact ⟨log2_small (by omega), sl16 (by omega), _, _, rfl, by rw [len_app]; omega, rfl⟩
    · rw [ss_nil]
      exact ⟨_, _, rfl, hz', rfl⟩
  · rintro e s ⟨z', w', rfl, hz', rfl⟩
    rw [ss_ret, sat_var rfl]
    exact ⟨_, _, rfl, hz', rfl, s5⟩
theorem name_ok {ns : List Int} {l n : Nat} {used : PV} {st : Store} (hs : SrcAt st l) (hu : Used st used l n) (hn : n ≤ 900) :
    Sat (m_law_name [scr ns, .loc l, used] st) fun v s => ∃ z o, v = .str z ∧ z.length ≤ 20 ∧ s = st.set l o ∧ SrcAt s l := by
  refine sat_body ?_
  unfold f_law_name
  simp only [sat_ok, sat_bind, sat_v, sat_c, sat_bin, sat_un, sat_test, sat_truth, sat_and, sat_or, sat_not, sat_yes, sat_andv, sat_notv, sat_chain, sat_nil, sat_cons, sat_args, sat_call, sat_callX, sat_meth, sat_one, sat_oNone, sat_oSome, sat_sl, sat_tup, sat_lst, sat_loc, ss_nil, ss_seq, ss_set, ss_expr, ss_ret, ss_retN, ss_if, ss_tg, ss_par, ss_sub, ss_for, sat_comp, setTg, setTgs, wipeP, sizeLine_eq, List.map_cons, List.map_nil, List.length_cons, List.length_nil, List.cons_append, List.nil_append, List.set_cons_zero, List.set_cons_succ, List.getElem?_cons_zero, List.getElem?_cons_succ, Nat.reduceAdd, Nat.reduceSub, Nat.reduceLeDiff, List.reduceReplicate, Option.some.injEq, exists_eq_left', true_and, and_true, Nat.zero_add, o_addI, o_addS, o_addT, o_addL, o_subI, o_mulI, o_fdivI, o_modI, o_powI, o_negI, o_eqI, o_neI, o_eqS, o_neS, o_ltI, o_gtI, o_leI, o_geI, o_ltS, o_geS, o_inS, o_notInS, o_isN, o_isNotN, o_isT, o_isNotT, o_isS, o_isNotS, o_int, o_intB, o_abs, o_str, o_lenT, o_lenL, o_lenF, o_lenS, o_ixT, o_ixL, o_ixF, ixW_0, ixW_1, ixW_2, o_isStr, o_tupL, o_tupT, o_listT, o_listL, o_listLocT, o_gcd, o_bits, o_finF, o_finT, sat_iVal, sat_iEnum, sat_iRange1, sat_iRange2, o_itT, o_itL, o_itF, o_itS, o_enT, o_rng, lenLet, lenDig]
  refine (draw_ok hs (by decide) (by decide)).mono ?_
  rintro _ _ ⟨r, o1, rfl, h0, h1, rfl, s1⟩
  refine ixS_in (by rw [lenLet]; exact sl16 (by decide)) h0 (by rw [lenLet]; omega) fun c1 => ?_
  refine (draw_ok s1 (by decide) (by decide)).mono ?_
  rintro _ _ ⟨r2, o2, rfl, g0, g1, rfl, s2⟩
  simp only [sat_ok, sat_bind, sat_v, sat_c, sat_bin, sat_un, sat_test, sat_truth, sat_and, sat_or, sat_not, sat_yes, sat_andv, sat_notv, sat_chain, sat_nil, sat_cons, sat_args, sat_call, sat_callX, sat_meth, sat_one, sat_oNone, sat_oSome, sat_sl, sat_tup, sat_lst, sat_loc, ss_nil, ss_seq, ss_set, ss_expr, ss_ret, ss_retN, ss_if, ss_tg, ss_par, ss_sub, ss_for, sat_comp, setTg, setTgs, wipeP, sizeLine_eq, List.map_cons, List.map_nil, List.length_cons, List.length_nil, List.cons_append, List.nil_append, List.set_cons_zero, List.set_cons_succ, List.getElem?_cons_zero, List.getElem?_cons_succ, Nat.reduceAdd, Nat.reduceSub, Nat.reduceLeDiff, List.reduceReplicate, Option.some.injEq, exists_eq_left', true_and, and_true, Nat.zero_add, o_addI, o_addS, o_addT, o_addL, o_subI, o_mulI, o_fdivI, o_modI, o_powI, o_negI, o_eqI, o_neI, o_eqS, o_neS, o_ltI, o_gtI, o_leI, o_geI, o_ltS, o_geS, o_inS, o_notInS, o_isN, o_isNotN, o_isT, o_isNotT, o_isS, o_isNotS, o_int, o_intB, o_abs, o_str, o_lenT, o_lenL, o_lenF, o_lenS, o_ixT, o_ixL, o_ixF, ixW_0, ixW_1, ixW_2, o_isStr, o_tupL, o_tupT, o_listT, o_listL, o_listLocT, o_gcd, o_bits, o_finF, o_finT, sat_iVal, sat_iEnum, sat_iRange1, sat_iRange2, o_itT, o_itL, o_itF, o_itS, o_enT, o_rng]
  refine ⟨by omega, ?_⟩
  have lS : (("abcdefghijklmnopqrstuvwxyz" : Str) ++ ("0123456789" : Str)).length = 36 := by rw [len_app, lenLet, lenDig]
  refine for_invN (k := 0) (fun i e s => ∃ z o w, e = [some (scr ns), some (.loc l), some used, some (.str "abcdefghijklmnopqrstuvwxyz"), some (.str ("abcdefghijklmnopqrstuvwxyz" ++ "0123456789")), some (.str z), w, none] ∧ z.length ≤ 1 + i ∧ s = st.set l o ∧ SrcAt s l)
    ⟨_, o2, none, rfl, by rw [len1]; omega, by rw [List.set_set], s2⟩ ?_ ?_
  · rintro i v e s hv ⟨z, o, w, rfl, hz, rfl, s3⟩
    obtain ⟨hi, rfl⟩ := rngs_get hv
    simp only [sat_ok, sat_bind, sat_v, sat_c, sat_bin, sat_un, sat_test, sat_truth, sat_and, sat_or, sat_not, sat_yes, sat_andv, sat_notv, sat_chain, sat_nil, sat_cons, sat_args, sat_call, sat_callX, sat_meth, sat_one, sat_oNone, sat_oSome, sat_sl, sat_tup, sat_lst, sat_loc, ss_nil, ss_seq, ss_set, ss_expr, ss_ret, ss_retN, ss_if, ss_tg, ss_par, ss_sub, ss_for, sat_comp, setTg, setTgs, wipeP, sizeLine_eq, List.map_cons, List.map_nil, List.length_cons, List.length_nil, List.cons_append, List.nil_append, List.set_cons_zero, List.set_cons_succ, List.getElem?_cons_zero, List.getElem?_cons_succ, Nat.reduceAdd, Nat.reduceSub, Nat.reduceLeDiff, List.reduceReplicate, Option.some.injEq, exists_eq_left', true_and, and_true, Nat.zero_add, o_addI, o_addS, o_addT, o_addL, o_subI, o_mulI, o_fdivI, o_modI, o_powI, o_negI, o_eqI, o_neI, o_eqS, o_neS, o_ltI, o_gtI, o_leI, o_geI, o_ltS, o_geS, o_inS, o_notInS, o_isN, o_isNotN, o_isT, o_isNotT, o_isS, o_isNotS, o_int, o_intB, o_abs, o_str, o_lenT, o_lenL, o_lenF, o_lenS, o_ixT, o_ixL, o_ixF, ixW_0, ixW_1, ixW_2, o_isStr, o_tupL, o_tupT, o_listT, o_listL, o_listLocT, o_gcd, o_bits, o_finF, o_finT, sat_iVal, sat_iEnum, sat_iRange1, sat_iRange2, o_itT, o_itL, o_itF, o_itS, o_enT, o_rng]
    refine (draw_ok s3 (by decide) (by decide)).mono ?_
    rintro _ _ ⟨r3, o3, rfl, k0, k1, rfl, s4⟩
    refine ixS_in (by rw [lS]; exact sl16 (by decide)) k0 (by rw [lS]; omega) fun c => ?_
    simp only [o_addI, o_addS, o_addT, o_addL, o_subI, o_mulI, o_fdivI, o_modI, o_powI, o_negI, o_eqI, o_neI, o_eqS, o_neS, o_ltI, o_gtI, o_leI, o_geI, o_ltS, o_geS, o_inS, o_notInS, o_isN, o_isNotN, o_isT, o_isNotT, o_isS, o_isNotS, o_int, o_intB, o_abs, o_str, o_lenT, o_lenL, o_lenF, o_lenS, o_ixT, o_ixL, o_ixF, ixW_0, ixW_1, ixW_2, o_isStr, o_tupL, o_tupT, o_listT, o_listL, o_listLocT, o_gcd, o_bits, o_finF, o_finT, sat_iVal, sat_iEnum, sat_iRange1, sat_iRange2, o_itT, o_itL, o_itF, o_itS, o_enT, o_rng]
    refine ⟨by rw [len1]; exact sl16 (by omega), _, o3, _, rfl, by rw [len_app, len1]; omega, by rw [List.set_set], s4⟩
  · rintro e s ⟨z, o, w, rfl, hz, rfl, s3⟩
    rw [rngs_len] at hz
    have hz : z.length ≤ 3 := by omega
    simp only [sat_ok, sat_bind, sat_v, sat_c, sat_bin, sat_un, sat_test, sat_truth, sat_and, sat_or, sat_not, sat_yes, sat_andv, sat_notv, sat_chain, sat_nil, sat_cons, sat_args, sat_call, sat_callX, sat_meth, sat_one, sat_oNone, sat_oSome, sat_sl, sat_tup, sat_lst, sat_loc, ss_nil, ss_seq, ss_set, ss_expr, ss_ret, ss_retN, ss_if, ss_tg, ss_par, ss_sub, ss_for, sat_comp, setTg, setTgs, wipeP, sizeLine_eq, List.map_cons, List.map_nil, List.length_cons, List.length_nil, List.cons_append, List.nil_append, List.set_cons_zero, List.set_cons_succ, List.getElem?_cons_zero, List.getElem?_cons_succ, Nat.reduceAdd, Nat.reduceSub, Nat.reduceLeDiff, List.reduceReplicate, Option.some.injEq, exists_eq_left', true_and, and_true, Nat.zero_add, o_addI, o_addS, o_addT, o_addL, o_subI, o_mulI, o_fdivI, o_modI, o_powI, o_negI, o_eqI, o_neI, o_eqS, o_neS, o_ltI, o_gtI, o_leI, o_geI, o_ltS, o_geS, o_inS, o_notInS, o_isN, o_isNotN, o_isT, o_isNotT, o_isS, o_isNotS, o_int, o_intB, o_abs, o_str, o_lenT, o_lenL, o_lenF, o_lenS, o_ixT, o_ixL, o_ixF, ixW_0, ixW_1, ixW_2, o_isStr, o_tupL, o_tupT, o_listT, o_listL, o_listLocT, o_gcd, o_bits, o_finF, o_finT, sat_iVal, sat_iEnum, sat_iRange1, sat_iRange2, o_itT, o_itL, o_itF, o_itS, o_enT, o_rng]
    refine (draw_ok s3 (by decide) (by decide)).mono ?_
    rintro _ _ ⟨r3, o3, rfl, k0, k1, rfl, s4⟩
    simp only [sat_ok, sat_bind, sat_v, sat_c, sat_bin, sat_un, sat_test, sat_truth, sat_and, sat_or, sat_not, sat_yes, sat_andv, sat_notv, sat_chain, sat_nil, sat_cons, sat_args, sat_call, sat_callX, sat_meth, sat_one, sat_oNone, sat_oSome, sat_sl, sat_tup, sat_lst, sat_loc, ss_nil, ss_seq, ss_set, ss_expr, ss_ret, ss_retN, ss_if, ss_tg, ss_par, ss_sub, ss_for, sat_comp, setTg, setTgs, wipeP, sizeLine_eq, List.map_cons, List.map_nil, List.length_cons, List.length_nil, List.cons_append, List.nil_append, List.set_cons_zero, List.set_cons_succ, List.getElem?_cons_zero, List.getElem?_cons_succ, Nat.reduceAdd, Nat.reduceSub, Nat.reduceLeDiff, List.reduceReplicate, Option.some.injEq, exists_eq_left', true_and, and_true, Nat.zero_add, o_addI, o_addS, o_addT, o_addL, o_subI, o_mulI, o_fdivI, o_modI, o_powI, o_negI, o_eqI, o_neI, o_eqS, o_neS, o_ltI, o_gtI, o_leI, o_geI, o_ltS, o_geS, o_inS, o_notInS, o_isN, o_isNotN, o_isT, o_isNotT, o_isS, o_isNotS, o_int, o_intB, o_abs, o_str, o_lenT, o_lenL, o_lenF, o_lenS, o_ixT, o_ixL, o_ixF, ixW_0, ixW_1, ixW_2, o_isStr, o_tupL, o_tupT, o_listT, o_listL, o_listLocT, o_gcd, o_bits, o_finF, o_finT, sat_iVal, sat_iEnum, sat_iRange1, sat_iRange2, o_itT, o_itL, o_itF, o_itS, o_enT, o_rng]
    split
    · refine (draw_ok s4 (by decide) (by decide)).mono ?_
      rintro _ _ ⟨r4, o4, rfl, m0, m1, rfl, s5⟩
      simp only [sat_ok, sat_bind, sat_v, sat_c, sat_bin, sat_un, sat_test, sat_truth, sat_and, sat_or, sat_not, sat_yes, sat_andv, sat_notv, sat_chain, sat_nil, sat_cons, sat_args, sat_call, sat_callX, sat_meth, sat_one, sat_oNone, sat_oSome, sat_sl, sat_tup, sat_lst, sat_loc, ss_nil, ss_seq, ss_set, ss_expr, ss_ret, ss_retN, ss_if, ss_tg, ss_par, ss_sub, ss_for, sat_comp, setTg, setTgs, wipeP, sizeLine_eq, List.map_cons, List.map_nil, List.length_cons, List.length_nil, List.cons_append, List.nil_append, List.set_cons_zero, List.set_cons_succ, List.getElem?_cons_zero, List.getElem?_cons_succ, Nat.reduceAdd, Nat.reduceSub, Nat.reduceLeDiff, List.reduceReplicate, Option.some.injEq, exists_eq_left', true_and, and_true, Nat.zero_add, o_addI, o_addS, o_addT, o_addL, o_subI, o_mulI, o_fdivI, o_modI, o_powI, o_negI, o_eqI, o_neI, o_eqS, o_neS, o_ltI, o_gtI, o_leI, o_geI, o_ltS, o_geS, o_inS, o_notInS, o_isN, o_isNotN, o_isT, o_isNotT, o_isS, o_isNotS, o_int, o_intB, o_abs, o_str, o_lenT, o_lenL, o_lenF, o_lenS, o_ixT, o_ixL, o_ixF, ixW_0, ixW_1, ixW_2, o_isStr, o_tupL, o_tupT, o_listT, o_listL, o_listLocT, o_gcd, o_bits, o_finF, o_finT, sat_iVal, sat_iEnum, sat_iRange1, sat_iRange2, o_itT, o_itL, o_itF, o_itS, o_enT, o_rng]
      refine draw_len m0 (by simp only [List.length_cons, List.length_nil]; omega) fun y hy => ?_
      obtain ⟨z2, rfl, hz2⟩ : ∃ z2, y = .str z2 ∧ z2.length ≤ 3 := by
        simp only [List.mem_cons, List.not_mem_nil, or_false] at hy
        rcases hy with rfl | rfl | rfl | rfl | rfl | rfl <;> exact ⟨_, rfl, by decide +kernel⟩
      rw [List.set_set, List.set_set]
      have := name_rest (ns := ns) (w := w) hu hn z2 o4 (.str "abcdefghijklmnopqrstuvwxyz") (.str ("abcdefghijklmnopqrstuvwxyz" ++ "0123456789")) hz2 (by rw [List.set_set, List.set_set] at s5; exact s5)
      simpa only [sat_ok, sat_bind, sat_v, sat_c, sat_bin, sat_un, sat_test, sat_truth, sat_and, sat_or, sat_not, sat_yes, sat_andv, sat_notv, sat_chain, sat_nil, sat_cons, sat_args, sat_call, sat_callX, sat_meth, sat_one, sat_oNone, sat_oSome, sat_sl, sat_tup, sat_lst, sat_loc, ss_nil, ss_seq, ss_set, ss_expr, ss_ret, ss_retN, ss_if, ss_tg, ss_par, ss_sub, ss_for, sat_comp, setTg, setTgs, wipeP, sizeLine_eq, List.map_cons, List.map_nil, List.length_cons, List.length_nil, List.cons_append, List.nil_append, List.set_cons_zero, List.set_cons_succ, List.getElem?_cons_zero, List.getElem?_cons_succ, Nat.reduceAdd, Nat.reduceSub, Nat.reduceLeDiff, List.reduceReplicate, Option.some.injEq, exists_eq_left', true_and, and_true, Nat.zero_add, o_addI, o_addS, o_addT, o_addL, o_subI, o_mulI, o_fdivI, o_modI, o_powI, o_negI, o_eqI, o_neI, o_eqS, o_neS, o_ltI, o_gtI, o_leI, o_geI, o_ltS, o_geS, o_inS, o_notInS, o_isN, o_isNotN, o_isT, o_isNotT, o_isS, o_isNotS, o_int, o_intB, o_abs, o_str, o_lenT, o_lenL, o_lenF, o_lenS, o_ixT, o_ixL, o_ixF, ixW_0, ixW_1, ixW_2, o_isStr, o_tupL, o_tupT, o_listT, o_listL, o_listLocT, o_gcd, o_bits, o_finF, o_finT, sat_iVal, sat_iEnum, sat_iRange1, sat_iRange2, o_itT, o_itL, o_itF, o_itS, o_enT, o_rng] using this
    · rw [List.set_set]
      have := name_rest (ns := ns) (w := w) hu hn z o3 (.str "abcdefghijklmnopqrstuvwxyz") (.str ("abcdefghijklmnopqrstuvwxyz" ++ "0123456789")) hz (by rw [List.set_set] at s4; exact s4)
      simpa only [sat_ok, sat_bind, sat_v, sat_c, sat_bin, sat_un, sat_test, sat_truth, sat_and, sat_or, sat_not, sat_yes, sat_andv, sat_notv, sat_chain, sat_nil, sat_cons, sat_args, sat_call, sat_callX, sat_meth, sat_one, sat_oNone, sat_oSome, sat_sl, sat_tup, sat_lst, sat_loc, ss_nil, ss_seq, ss_set, ss_expr, ss_ret, ss_retN, ss_if, ss_tg, ss_par, ss_sub, ss_for, sat_comp, setTg, setTgs, wipeP, sizeLine_eq, List.map_cons, List.map_nil, List.length_cons, List.length_nil, List.cons_append, List.nil_append, List.set_cons_zero, List.set_cons_succ, List.getElem?_cons_zero, List.getElem?_cons_succ, Nat.reduceAdd, Nat.reduceSub, Nat.reduceLeDiff, List.reduceReplicate, Option.some.injEq, exists_eq_left', true_and, and_true, Nat.zero_add, o_addI, o_addS, o_addT, o_addL, o_subI, o_mulI, o_fdivI, o_modI, o_powI, o_negI, o_eqI, o_neI, o_eqS, o_neS, o_ltI, o_gtI, o_leI, o_geI, o_ltS, o_geS, o_inS, o_notInS, o_isN, o_isNotN, o_isT, o_isNotT, o_isS, o_isNotS, o_int, o_intB, o_abs, o_str, o_lenT, o_lenL, o_lenF, o_lenS, o_ixT, o_ixL, o_ixF, ixW_0, ixW_1, ixW_2, o_isStr, o_tupL, o_tupT, o_listT, o_listL, o_listLocT, o_gcd, o_bits, o_finF, o_finT, sat_iVal, sat_iEnum, sat_iRange1, sat_iRange2, o_itT, o_itL, o_itF, o_itS, o_enT, o_rng] using this
end PL
/-! PL, part q: frames; divisors. -/
namespace PL
open PySem PySem.Spec PyProof.Rows L2
/-- but the places in L all stands; the store may have grown -/
structure Gr (L : List Nat) (st s : Store) : Prop where
  len : st.length ≤ s.length
  same : ∀ k, k < st.length → k ∉ L → s[k]? = st[k]?
theorem Gr.refl {L : List Nat} {st : Store} : Gr L st st := ⟨Nat.le_refl _, fun _ _ _ => rfl⟩
theorem Gr.trans {L : List Nat} {a b c : Store} (h : Gr L a b) (g : Gr L b c) : Gr L a c := ⟨Nat.le_trans h.len g.len, fun k hk n => (g.same k (Nat.lt_of_lt_of_le hk h.len) n).trans (h.same k hk n)⟩
theorem Gr.set {L : List Nat} {st : Store} {l : Nat} {o : PO} (h : l ∈ L) : Gr L st (st.set l o) := ⟨by simp, fun k _ n => List.getElem?_set_ne (fun e : l = k => n (e ▸ h))⟩
theorem Gr.app {L : List Nat} {st r : Store} : Gr L st (st ++ r) := ⟨by simp, fun k hk _ => List.getElem?_append_left hk⟩
theorem Gr.mono {L L' : List Nat} {st s : Store} (h : Gr L st s) (i : ∀ k ∈ L, k ∈ L') : Gr L' st s := ⟨h.len, fun k hk n => h.same k hk fun m => n (i k m)⟩
/-- places that are new are no one's concern -/
theorem Gr.cut {L L' : List Nat} {st s : Store} (h : Gr L st s) (i : ∀ k ∈ L, k < st.length → k ∈ L') : Gr L' st s := ⟨h.len, fun k hk n => h.same k hk fun m => n (i k m hk)⟩
theorem SrcAt.lt {st : Store} {l : Nat} (h : SrcAt st l) : l < st.length := by
  obtain ⟨a, b, c, h, _⟩ := h
  exact (List.getElem?_eq_some_iff.mp h).1
theorem lt_of_some {st : Store} {l : Nat} {o : PO} (h : st[l]? = some o) : l < st.length := (List.getElem?_eq_some_iff.mp h).1
theorem SrcAt.gr {L : List Nat} {st s : Store} {l : Nat} (h : SrcAt st l) (g : Gr L st s) (n : l ∉ L) : SrcAt s l := by
  have hl := h.lt
  obtain ⟨a, b, c, h, h0⟩ := h
  exact ⟨a, b, c, (g.same l hl n).trans h, h0⟩
theorem Gr.at' {L : List Nat} {st s : Store} {k : Nat} {o : PO} (g : Gr L st s) (h : st[k]? = some o) (n : k ∉ L) : s[k]? = some o := (g.same k (lt_of_some h) n).trans h
theorem draw' {ns : List Int} {l : Nat} {lim : Int} {st : Store} {Q : PV → Store → Prop} (hs : SrcAt st l) (hl : 0 < lim) (hl2 : lim.natAbs.log2 < 9000)
    (k : ∀ r s, 0 ≤ r → r < lim → SrcAt s l → Gr [l] st s → Q (.int r) s) : Sat (m_law_draw [scr ns, .loc l, .int lim] st) Q := by
  refine (draw_ok hs hl hl2).mono ?_
  rintro _ _ ⟨r, o, rfl, h0, h1, rfl, s1⟩
  exact k r _ h0 h1 s1 (.set (by simp))
/-- texts that are read: finished, or at a place other than l -/
structure Use (st : Store) (v : PV) (l n : Nat) (us : List Str) : Prop where
  ex : ∃ b, seqOf st v = some (b, us.map .str)
  len : us.length ≤ n
  ne : v ≠ .loc l
theorem seqOf_gr {L : List Nat} {st s : Store} {v : PV} {q : Bool × List PV} (g : Gr L st s) (h : seqOf st v = some q) (n : ∀ k ∈ L, v ≠ .loc k) : seqOf s v = some q := by
  cases v with
  | loc k =>
    unfold seqOf at h ⊢
    simp only at h ⊢
    split at h
    · rename_i xs e
      have : s[k]? = some (.lst xs) := g.at' e fun m => n k m rfl
      simp only [this]
      exact h
    · cases h
  | _ => exact h
theorem Use.gr {L : List Nat} {st s : Store} {v : PV} {l n : Nat} {us : List Str} (u : Use st v l n us) (g : Gr L st s) (h : ∀ k ∈ L, v ≠ .loc k) : Use s v l n us :=
  ⟨let ⟨b, e⟩ := u.ex; ⟨b, seqOf_gr g e h⟩, u.len, u.ne⟩
theorem Use.nil {st : Store} {l n : Nat} : Use st (.lst []) l n [] := ⟨⟨false, rfl⟩, Nat.zero_le _, nofun⟩
theorem Use.lst {st : Store} {l n : Nat} {us : List Str} (h : us.length ≤ n) : Use st (.lst (us.map .str)) l n us := ⟨⟨false, rfl⟩, h, nofun⟩
theorem Use.at' {st : Store} {l n k : Nat} {us : List Str} (h : st[k]? = some (.lst (us.map .str))) (hn : us.length ≤ n) (ne : k ≠ l) : Use st (.loc k) l n us :=
  ⟨⟨false, by unfold seqOf; simp only [h]⟩, hn, fun e => ne (by cases e; rfl)⟩
theorem name' {ns : List Int} {l n : Nat} {used : PV} {st : Store} {us : List Str} {Q : PV → Store → Prop} (hs : SrcAt st l) (hu : Use st used l n us) (hn : n ≤ 900)
    (k : ∀ z s, z.length ≤ 20 → SrcAt s l → Gr [l] st s → Q (.str z) s) : Sat (m_law_name [scr ns, .loc l, used] st) Q := by
  obtain ⟨⟨b, e⟩, h2, h3⟩ := hu
  refine (name_ok hs (n := n) ⟨us, b, h2, fun o => seqOf_gr (L := [l]) (.set (by simp)) e (by simpa using h3)⟩ hn).mono ?_
  rintro _ _ ⟨z, o, rfl, h, rfl, s1⟩
  exact k z _ h s1 (.set (by simp))
/-! ### the greatest common divisor, by turns -/
theorem gcd_turns {a b g : Nat} (hg : Nat.gcd a b = g) (i : Nat) (B n : Nat) (hB : B < 2 ^ n) :
    (i % 2 = 0 → b * 2 ^ (i / 2) ≤ B → b ≠ 0 → b * 2 ^ (i / 2) ≤ B ∧ a % b < b ∧ Nat.gcd b (a % b) = g) ∧
    (i % 2 = 1 → a * 2 ^ (i / 2) ≤ B → b < a → b ≠ 0 → (a % b) * 2 ^ (i / 2 + 1) ≤ B ∧ Nat.gcd b (a % b) = g) := by
  refine ⟨fun _ h1 h2 => ⟨h1, Nat.mod_lt _ (Nat.pos_of_ne_zero h2), ?_⟩, fun _ h1 h2 h3 => ⟨?_, ?_⟩⟩
  · rw [Nat.gcd_comm, ← Nat.gcd_rec, Nat.gcd_comm]; exact hg
  · have h4 : 2 * (a % b) ≤ a := by
      have := Nat.mod_add_div a b
      have h5 : a % b < b := Nat.mod_lt _ (Nat.pos_of_ne_zero h3)
      have h6 : 1 ≤ a / b := (Nat.one_le_div_iff (Nat.pos_of_ne_zero h3)).mpr (Nat.le_of_lt h2)
      have h7 : b * 1 ≤ b * (a / b) := Nat.mul_le_mul_left _ h6
      omega
    calc (a % b) * 2 ^ (i / 2 + 1) = (2 * (a % b)) * 2 ^ (i / 2) := by rw [Nat.pow_succ]; ac_rfl
      _ ≤ a * 2 ^ (i / 2) := Nat.mul_le_mul_right _ h4
      _ ≤ B := h1
  · rw [Nat.gcd_comm, ← Nat.gcd_rec, Nat.gcd_comm]; exact hg
theorem imod_nat (a b : Nat) : ((a : Int) % (b : Int)) = ((a % b : Nat) : Int) := rfl
theorem bits_lt (b : Nat) : b < 2 ^ (Builtin.Int.intBits (b : Int)) := by
  unfold Builtin.Int.intBits
  by_cases h : b = 0
  · subst h; decide
  · have : ((b : Int) == 0) = false := by simpa using h
    rw [this]
    show b < 2 ^ (((b : Int).natAbs).log2 + 1)
    rw [Int.natAbs_natCast]
    exact (Nat.log2_lt h).mp (Nat.lt_succ_self _)
theorem gcd_ok {a b : Nat} {st : Store} (hb : Builtin.Int.intBits (b : Int) < 1000000) : Sat (m_law_gcd [.int a, .int b] st) fun v s => v = .int (Nat.gcd a b) ∧ s = st := by
  refine sat_body ?_
  unfold f_law_gcd
  simp only [sat_ok, sat_bind, sat_v, sat_c, sat_bin, sat_un, sat_test, sat_truth, sat_and, sat_or, sat_not, sat_yes, sat_andv, sat_notv, sat_chain, sat_nil, sat_cons, sat_args, sat_call, sat_callX, sat_meth, sat_one, sat_oNone, sat_oSome, sat_sl, sat_tup, sat_lst, sat_loc, ss_nil, ss_seq, ss_set, ss_expr, ss_ret, ss_retN, ss_if, ss_tg, ss_par, ss_sub, ss_for, sat_comp, setTg, setTgs, wipeP, sizeLine_eq, List.map_cons, List.map_nil, List.length_cons, List.length_nil, List.cons_append, List.nil_append, List.set_cons_zero, List.set_cons_succ, List.getElem?_cons_zero, List.getElem?_cons_succ, Nat.reduceAdd, Nat.reduceSub, Nat.reduceLeDiff, List.reduceReplicate, Option.some.injEq, exists_eq_left', true_and, and_true, Nat.zero_add, o_addI, o_addS, o_addT, o_addL, o_subI, o_mulI, o_fdivI, o_modI, o_powI, o_negI, o_eqI, o_neI, o_eqS, o_neS, o_ltI, o_gtI, o_leI, o_geI, o_ltS, o_geS, o_inS, o_notInS, o_isN, o_isNotN, o_isT, o_isNotT, o_isS, o_isNotS, o_int, o_intB, o_abs, o_str, o_lenT, o_lenL, o_lenF, o_lenS, o_ixT, o_ixL, o_ixF, ixW_0, ixW_1, ixW_2, o_isStr, o_tupL, o_tupT, o_listT, o_listL, o_listLocT, o_gcd, o_bits, o_finF, o_finT, sat_iVal, sat_iEnum, sat_iRange1, sat_iRange2, o_itT, o_itL, o_itF, o_itS, o_enT, o_rng]
  have hlt := bits_lt b
  generalize hn : Builtin.Int.intBits (b : Int) = n at hlt hb ⊢
  refine ⟨.inl (.inl (by decide)), ⟨by omega, by omega⟩, ?_⟩
  refine for_invN (k := 0) (fun i e s => s = st ∧ ∃ (x y : Nat) (w : Option PV), e = [some (.int x), some (.int y), w] ∧ Nat.gcd x y = Nat.gcd a b ∧ (i % 2 = 0 → y * 2 ^ (i / 2) ≤ b) ∧ (i % 2 = 1 → x * 2 ^ (i / 2) ≤ b ∧ y < x))
    ⟨rfl, a, b, _, rfl, rfl, fun _ => by simp, fun h => by simp at h⟩ ?_ ?_
  · rintro i v e s hv ⟨rfl, x, y, w, rfl, hg, h0, h1⟩
    obtain ⟨hi, rfl⟩ := rngs_get hv
    refine ⟨_, rfl, ?_⟩
    rw [ss_seq, ss_if, sat_test, sat_bin, sat_var rfl, sat_c, o_eqI, sat_truth]
    by_cases hy : y = 0
    · subst hy
      rw [if_pos (by simp), ss_ret, sat_var rfl]
      rw [Nat.gcd_zero_right] at hg
      exact ⟨by rw [hg], rfl⟩
    · rw [if_neg (by simp; omega), ss_nil, ss_par, sat_cons, sat_var rfl, sat_cons, sat_bin, sat_args, sat_cons, sat_var rfl, sat_nil, sat_one, o_int, sat_var rfl, o_modI]
      refine ⟨by omega, ?_⟩
      rw [sat_nil]
      have T := gcd_turns hg (0 + i) b n hlt
      refine ⟨rfl, y, x % y, _, rfl, ?_, ?_, ?_⟩
      · rw [Nat.gcd_comm, ← Nat.gcd_rec, Nat.gcd_comm]; exact hg
      · intro hp
        have hp' : (0 + i) % 2 = 1 := by omega
        have e : (0 + i + 1) / 2 = (0 + i) / 2 + 1 := by omega
        rw [e]
        exact (T.2 hp' (h1 hp').1 (h1 hp').2 hy).1
      · intro hp
        have hp' : (0 + i) % 2 = 0 := by omega
        have e : (0 + i + 1) / 2 = (0 + i) / 2 := by omega
        rw [e]
        have := T.1 hp' (h0 hp') hy
        exact ⟨this.1, this.2.1⟩
  · rintro e s ⟨rfl, x, y, w, rfl, hg, h0, h1⟩
    rw [rngs_len] at h0
    have e1 : (0 + ((2 : Int) * (n : Int) + 2).toNat) = 2 * n + 2 := by omega
    rw [e1] at h0
    have h2 := h0 (by omega)
    have e2 : (2 * n + 2) / 2 = n + 1 := by omega
    rw [e2] at h2
    have hy : y = 0 := by
      rcases Nat.eq_zero_or_pos y with z | z
      · exact z
      · have : 1 * 2 ^ (n + 1) ≤ y * 2 ^ (n + 1) := Nat.mul_le_mul_right _ z
        rw [Nat.pow_succ] at this h2
        omega
    subst hy
    rw [Nat.gcd_zero_right] at hg
    exact ⟨by rw [hg], rfl⟩
end PL
/-! PL, part r: rows made by the draws. -/
namespace PL
open PySem PySem.Spec PyProof.Rows L2
abbrev ints' (ws : List Int) : List PV := ws.map .int
/-- weights of moderate size -/
def Mod1 (w : Int) : Prop := 1 ≤ w ∧ w.natAbs < 2 ^ 200
theorem Mod1.bits {w : Nat} (h : w < 2 ^ 200) : Builtin.Int.intBits (w : Int) < 1000000 := by
  unfold Builtin.Int.intBits
  by_cases h0 : w = 0
  · subst h0; decide
  · have : ((w : Int) == 0) = false := by simpa using h0
    rw [this]
    show ((w : Int).natAbs).log2 + 1 < 1000000
    rw [Int.natAbs_natCast]
    have := (Nat.log2_lt h0).mpr h
    omega
/-- the greatest common divisor of a row, as both read it -/
def gcds (ws : List Int) : Nat := ws.foldl (fun c w => Nat.gcd c w.natAbs) 0
theorem gcds_fold : ∀ (ws : List Int) (c : Nat), ws.foldl (fun c w => Nat.gcd c w.natAbs) c = Nat.gcd c (gcds ws)
  | [], c => by simp [gcds]
  | w :: ws, c => by
    rw [List.foldl_cons, gcds_fold ws]
    have : gcds (w :: ws) = Nat.gcd w.natAbs (gcds ws) := by
      unfold gcds
      rw [List.foldl_cons, gcds_fold ws, Nat.gcd_zero_left]
      rfl
    rw [this, Nat.gcd_assoc]
theorem gcds_cons (w : Int) (ws : List Int) : gcds (w :: ws) = Nat.gcd w.natAbs (gcds ws) := by
  show (w :: ws).foldl _ 0 = _
  rw [List.foldl_cons, gcds_fold, Nat.gcd_zero_left]
theorem gcds_dvd : ∀ {ws : List Int} {w : Int}, w ∈ ws → gcds ws ∣ w.natAbs
  | v :: ws, w, m => by
    rw [gcds_cons]
    rcases List.mem_cons.mp m with rfl | m
    · exact Nat.gcd_dvd_left ..
    · exact Nat.dvd_trans (Nat.gcd_dvd_right ..) (gcds_dvd m)
theorem gcds_pos {ws : List Int} (h : ∃ w ∈ ws, w ≠ 0) : 0 < gcds ws := by
  obtain ⟨w, m, h⟩ := h
  rcases Nat.eq_zero_or_pos (gcds ws) with z | z
  · have := gcds_dvd m
    rw [z] at this
    have := Nat.eq_zero_of_zero_dvd this
    omega
  · exact z
/-- what may be walked: a finished list or a place -/
def Walks (st : Store) (v : PV) (xs : List PV) : Prop := (v = .tup xs ∨ v = .lst xs ∨ v = .frz xs) ∨ ∃ l, v = .loc l ∧ st[l]? = some (.lst xs)
theorem Walks.iter {st : Store} {v : PV} {xs : List PV} (h : Walks st v xs) : ∃ p : Itms, pIter v st = .ok p st ∧ p.xs = xs ∧ p.ok st := by
  rcases h with (rfl | rfl | rfl) | ⟨l, rfl, h⟩
  · exact ⟨_, rfl, rfl, True.intro⟩
  · exact ⟨_, rfl, rfl, True.intro⟩
  · exact ⟨_, rfl, rfl, True.intro⟩
  · refine ⟨⟨xs, some (l, xs)⟩, ?_, rfl, h⟩
    unfold pIter
    simp only
    rw [h]
theorem Walks.seq {st : Store} {v : PV} {xs : List PV} (h : Walks st v xs) : ∃ b, seqOf st v = some (b, xs) := by
  rcases h with (rfl | rfl | rfl) | ⟨l, rfl, h⟩
  · exact ⟨_, rfl⟩
  · exact ⟨_, rfl⟩
  · exact ⟨_, rfl⟩
  · exact ⟨false, by unfold seqOf; simp only [h]⟩
theorem Walks.tup {st : Store} {v : PV} {xs : List PV} {Q : PV → Store → Prop} (h : Walks st v xs) : Sat (pTuple v st) Q = Q (.tup xs) st := by
  obtain ⟨b, e⟩ := h.seq
  unfold pTuple
  rw [e]
  exact sat_ok
/-- for w in v: c = gcd(c, w), by the law's own divisor -/
theorem reduced_ok {st : Store} {v : PV} {ws : List Int} {Q : PV → Store → Prop} (hw : Walks st v (ints' ws)) (h1 : ∀ w ∈ ws, Mod1 w) (hn : ws.length ≤ 1000)
    (k : gcds ws = 0 ∨ 0 < gcds ws → Q (.tup (ints' (if gcds ws = 0 then ws else ws.map fun w => w / (gcds ws : Int)))) st) : Sat (m_law_reduced [v] st) Q := by
  refine sat_body ?_
  unfold f_law_reduced
  obtain ⟨p, hp, hx, hk⟩ := hw.iter
  simp only [sat_ok, sat_bind, sat_v, sat_c, sat_bin, sat_un, sat_test, sat_truth, sat_and, sat_or, sat_not, sat_yes, sat_andv, sat_notv, sat_chain, sat_nil, sat_cons, sat_args, sat_call, sat_callX, sat_meth, sat_one, sat_oNone, sat_oSome, sat_sl, sat_tup, sat_lst, sat_loc, ss_nil, ss_seq, ss_set, ss_expr, ss_ret, ss_retN, ss_if, ss_tg, ss_par, ss_sub, ss_for, sat_comp, setTg, setTgs, wipeP, sizeLine_eq, List.map_cons, List.map_nil, List.length_cons, List.length_nil, List.cons_append, List.nil_append, List.set_cons_zero, List.set_cons_succ, List.getElem?_cons_zero, List.getElem?_cons_succ, Nat.reduceAdd, Nat.reduceSub, Nat.reduceLeDiff, List.reduceReplicate, Option.some.injEq, exists_eq_left', true_and, and_true, Nat.zero_add, o_addI, o_addS, o_addT, o_addL, o_subI, o_mulI, o_fdivI, o_modI, o_powI, o_negI, o_eqI, o_neI, o_eqS, o_neS, o_ltI, o_gtI, o_leI, o_geI, o_ltS, o_geS, o_inS, o_notInS, o_isN, o_isNotN, o_isT, o_isNotT, o_isS, o_isNotS, o_int, o_intB, o_abs, o_str, o_lenT, o_lenL, o_lenF, o_lenS, o_ixT, o_ixL, o_ixF, ixW_0, ixW_1, ixW_2, o_isStr, o_tupL, o_tupT, o_listT, o_listL, o_listLocT, o_gcd, o_bits, o_finF, o_finT, sat_iVal, sat_iEnum, sat_iRange1, sat_iRange2, o_itT, o_itL, o_itF, o_itS, o_enT, o_rng, hp, hx]
  refine for_invN (k := 0) (fun i e s => s = st ∧ ∃ w, e = [some v, some (.int ((gcds (ws.take i) : Nat) : Int)), w]) ⟨rfl, none, rfl⟩ ?_ ?_ (fun i e s h => by rw [h.1]; exact hk)
  · rintro i x e s hv ⟨rfl, w, rfl⟩
    obtain ⟨z, hz, rfl⟩ : ∃ z, ws[i]? = some z ∧ x = .int z := by
      rw [List.getElem?_map] at hv
      cases e : ws[i]? with
      | none => rw [e] at hv; cases hv
      | some z => rw [e] at hv; cases hv; exact ⟨z, rfl, rfl⟩
    have hm := h1 z (List.mem_of_getElem? hz)
    obtain ⟨z, rfl⟩ := Int.eq_ofNat_of_zero_le (show 0 ≤ z by have := hm.1; omega)
    simp only [sat_ok, sat_bind, sat_v, sat_c, sat_bin, sat_un, sat_test, sat_truth, sat_and, sat_or, sat_not, sat_yes, sat_andv, sat_notv, sat_chain, sat_nil, sat_cons, sat_args, sat_call, sat_callX, sat_meth, sat_one, sat_oNone, sat_oSome, sat_sl, sat_tup, sat_lst, sat_loc, ss_nil, ss_seq, ss_set, ss_expr, ss_ret, ss_retN, ss_if, ss_tg, ss_par, ss_sub, ss_for, sat_comp, setTg, setTgs, wipeP, sizeLine_eq, List.map_cons, List.map_nil, List.length_cons, List.length_nil, List.cons_append, List.nil_append, List.set_cons_zero, List.set_cons_succ, List.getElem?_cons_zero, List.getElem?_cons_succ, Nat.reduceAdd, Nat.reduceSub, Nat.reduceLeDiff, List.reduceReplicate, Option.some.injEq, exists_eq_left', true_and, and_true, Nat.zero_add, o_addI, o_addS, o_addT, o_addL, o_subI, o_mulI, o_fdivI, o_modI, o_powI, o_negI, o_eqI, o_neI, o_eqS, o_neS, o_ltI, o_gtI, o_leI, o_geI, o_ltS, o_geS, o_inS, o_notInS, o_isN, o_isNotN, o_isT, o_isNotT, o_isS, o_isNotS, o_int, o_intB, o_abs, o_str, o_lenT, o_lenL, o_lenF, o_lenS, o_ixT, o_ixL, o_ixF, ixW_0, ixW_1, ixW_2, o_isStr, o_tupL, o_tupT, o_listT, o_listL, o_listLocT, o_gcd, o_bits, o_finF, o_finT, sat_iVal, sat_iEnum, sat_iRange1, sat_iRange2, o_itT, o_itL, o_itF, o_itS, o_enT, o_rng]
    have hb : gcds (ws.take i) < 2 ^ 200 := by
      rcases Nat.eq_zero_or_pos (gcds (ws.take i)) with q | q
      · rw [q]; exact Nat.two_pow_pos _
      · cases hi : ws.take i with
        | nil => rw [hi] at q; exact absurd q (by decide)
        | cons y ys =>
          have my : y ∈ ws := List.mem_of_mem_take (i := i) (by rw [hi]; exact List.mem_cons_self)
          have := Nat.le_of_dvd (show 0 < y.natAbs by have := (h1 y my).1; omega) (gcds_dvd (ws := y :: ys) List.mem_cons_self)
          exact Nat.lt_of_le_of_lt this (h1 y my).2
    refine (gcd_ok (Mod1.bits hb)).mono ?_
    rintro _ _ ⟨rfl, rfl⟩
    refine ⟨rfl, some (.int z), ?_⟩
    have : gcds (ws.take (i + 1)) = Nat.gcd z (gcds (ws.take i)) := by
      have e1 : ws.take (i + 1) = ws.take i ++ [(z : Int)] := by
        rw [List.take_add_one, hz]; rfl
      rw [e1]
      show (ws.take i ++ [(z : Int)]).foldl _ 0 = _
      rw [List.foldl_append]
      show Nat.gcd (gcds (ws.take i)) (z : Int).natAbs = _
      rw [Int.natAbs_natCast, Nat.gcd_comm]
    rw [this]
  · rintro e s ⟨rfl, w, rfl⟩
    have e1 : ws.take (0 + (ints' ws).length) = ws := by simp
    rw [e1]
    simp only [sat_ok, sat_bind, sat_v, sat_c, sat_bin, sat_un, sat_test, sat_truth, sat_and, sat_or, sat_not, sat_yes, sat_andv, sat_notv, sat_chain, sat_nil, sat_cons, sat_args, sat_call, sat_callX, sat_meth, sat_one, sat_oNone, sat_oSome, sat_sl, sat_tup, sat_lst, sat_loc, ss_nil, ss_seq, ss_set, ss_expr, ss_ret, ss_retN, ss_if, ss_tg, ss_par, ss_sub, ss_for, sat_comp, setTg, setTgs, wipeP, sizeLine_eq, List.map_cons, List.map_nil, List.length_cons, List.length_nil, List.cons_append, List.nil_append, List.set_cons_zero, List.set_cons_succ, List.getElem?_cons_zero, List.getElem?_cons_succ, Nat.reduceAdd, Nat.reduceSub, Nat.reduceLeDiff, List.reduceReplicate, Option.some.injEq, exists_eq_left', true_and, and_true, Nat.zero_add, o_addI, o_addS, o_addT, o_addL, o_subI, o_mulI, o_fdivI, o_modI, o_powI, o_negI, o_eqI, o_neI, o_eqS, o_neS, o_ltI, o_gtI, o_leI, o_geI, o_ltS, o_geS, o_inS, o_notInS, o_isN, o_isNotN, o_isT, o_isNotT, o_isS, o_isNotS, o_int, o_intB, o_abs, o_str, o_lenT, o_lenL, o_lenF, o_lenS, o_ixT, o_ixL, o_ixF, ixW_0, ixW_1, ixW_2, o_isStr, o_tupL, o_tupT, o_listT, o_listL, o_listLocT, o_gcd, o_bits, o_finF, o_finT, sat_iVal, sat_iEnum, sat_iRange1, sat_iRange2, o_itT, o_itL, o_itF, o_itS, o_enT, o_rng]
    by_cases h0 : gcds ws = 0
    · rw [if_pos (by simp [h0]), hw.tup]
      have := k (.inl h0)
      rw [if_pos h0] at this
      exact this
    · rw [if_neg (by simpa using h0)]
      have hpos : 0 < gcds ws := Nat.pos_of_ne_zero h0
      simp only [hp, hx, sat_ok]
      refine comp_inv (fun i acc t => t = s ∧ acc = ints' ((ws.take i).map fun w => w / (gcds ws : Int))) (k := 0) ⟨rfl, rfl⟩ ?_ ?_ (fun i a s h => by rw [h.1]; exact hk)
      · rintro i x t acc hv ⟨rfl, rfl⟩
        obtain ⟨z, hz, rfl⟩ : ∃ z, ws[i]? = some z ∧ x = .int z := by
          rw [List.getElem?_map] at hv
          cases e : ws[i]? with
          | none => rw [e] at hv; cases hv
          | some z => rw [e] at hv; cases hv; exact ⟨z, rfl, rfl⟩
        have hm := h1 z (List.mem_of_getElem? hz)
        simp only [sat_ok, sat_bind, sat_v, sat_c, sat_bin, sat_un, sat_test, sat_truth, sat_and, sat_or, sat_not, sat_yes, sat_andv, sat_notv, sat_chain, sat_nil, sat_cons, sat_args, sat_call, sat_callX, sat_meth, sat_one, sat_oNone, sat_oSome, sat_sl, sat_tup, sat_lst, sat_loc, ss_nil, ss_seq, ss_set, ss_expr, ss_ret, ss_retN, ss_if, ss_tg, ss_par, ss_sub, ss_for, sat_comp, setTg, setTgs, wipeP, sizeLine_eq, List.map_cons, List.map_nil, List.length_cons, List.length_nil, List.cons_append, List.nil_append, List.set_cons_zero, List.set_cons_succ, List.getElem?_cons_zero, List.getElem?_cons_succ, Nat.reduceAdd, Nat.reduceSub, Nat.reduceLeDiff, List.reduceReplicate, Option.some.injEq, exists_eq_left', true_and, and_true, Nat.zero_add, o_addI, o_addS, o_addT, o_addL, o_subI, o_mulI, o_fdivI, o_modI, o_powI, o_negI, o_eqI, o_neI, o_eqS, o_neS, o_ltI, o_gtI, o_leI, o_geI, o_ltS, o_geS, o_inS, o_notInS, o_isN, o_isNotN, o_isT, o_isNotT, o_isS, o_isNotS, o_int, o_intB, o_abs, o_str, o_lenT, o_lenL, o_lenF, o_lenS, o_ixT, o_ixL, o_ixF, ixW_0, ixW_1, ixW_2, o_isStr, o_tupL, o_tupT, o_listT, o_listL, o_listLocT, o_gcd, o_bits, o_finF, o_finT, sat_iVal, sat_iEnum, sat_iRange1, sat_iRange2, o_itT, o_itL, o_itF, o_itS, o_enT, o_rng, if_true]
        have hle : gcds ws ≤ z.natAbs := Nat.le_of_dvd (by have := hm.1; omega) (gcds_dvd (List.mem_of_getElem? hz))
        refine ⟨⟨by omega, ?_⟩, ?_, ?_⟩
        · rw [Int.natAbs_natCast]
          have := (Nat.log2_lt h0).mpr (Nat.lt_of_le_of_lt hle hm.2)
          omega
        · have : (ints' ((ws.take i).map fun w => w / (gcds ws : Int))).length ≤ 1000 := by simp; omega
          omega
        · have e1 : ws.take (i + 1) = ws.take i ++ [z] := by
            rw [List.take_add_one, hz]; rfl
          rw [e1]
          simp
      · rintro acc t ⟨rfl, rfl⟩
        have e1 : ws.take (0 + (ints' ws).length) = ws := by simp
        rw [e1]
        have := k (.inr hpos)
        rw [if_neg h0] at this
        simpa only [sat_ok, sat_bind, sat_v, sat_c, sat_bin, sat_un, sat_test, sat_truth, sat_and, sat_or, sat_not, sat_yes, sat_andv, sat_notv, sat_chain, sat_nil, sat_cons, sat_args, sat_call, sat_callX, sat_meth, sat_one, sat_oNone, sat_oSome, sat_sl, sat_tup, sat_lst, sat_loc, ss_nil, ss_seq, ss_set, ss_expr, ss_ret, ss_retN, ss_if, ss_tg, ss_par, ss_sub, ss_for, sat_comp, setTg, setTgs, wipeP, sizeLine_eq, List.map_cons, List.map_nil, List.length_cons, List.length_nil, List.cons_append, List.nil_append, List.set_cons_zero, List.set_cons_succ, List.getElem?_cons_zero, List.getElem?_cons_succ, Nat.reduceAdd, Nat.reduceSub, Nat.reduceLeDiff, List.reduceReplicate, Option.some.injEq, exists_eq_left', true_and, and_true, Nat.zero_add, o_addI, o_addS, o_addT, o_addL, o_subI, o_mulI, o_fdivI, o_modI, o_powI, o_negI, o_eqI, o_neI, o_eqS, o_neS, o_ltI, o_gtI, o_leI, o_geI, o_ltS, o_geS, o_inS, o_notInS, o_isN, o_isNotN, o_isT, o_isNotT, o_isS, o_isNotS, o_int, o_intB, o_abs, o_str, o_lenT, o_lenL, o_lenF, o_lenS, o_ixT, o_ixL, o_ixF, ixW_0, ixW_1, ixW_2, o_isStr, o_tupL, o_tupT, o_listT, o_listL, o_listLocT, o_gcd, o_bits, o_finF, o_finT, sat_iVal, sat_iEnum, sat_iRange1, sat_iRange2, o_itT, o_itL, o_itF, o_itS, o_enT, o_rng] using this
end PL
/-! PL, part s: the sets of a drawn game. -/
namespace PL
open PySem PySem.Spec PyProof.Rows L2
/-- a row as it is drawn -/
def GRow (v : PV) : Prop := ∃ (name : Str) (owner : Int) (ws : List Int), v = .tup [.str name, .int owner, .tup (ints' ws)] ∧ name.length ≤ 40 ∧ 1 ≤ ws.length ∧ ws.length ≤ 64 ∧ ∀ w ∈ ws, Mod1 w
theorem isDs_ints (ws : List Int) : isDs (ints' ws) = true := by induction ws <;> simp_all [isDs, isD, ints']
theorem toDs_ints (ws : List Int) : toDs (ints' ws) = ws.map .int := by induction ws <;> simp_all [toDs, toD, ints']
theorem alikeI : ∀ (a b : List Int), PySem.W.alikeAll (a.map PyData.int) (b.map PyData.int) = true
  | [], _ => by simp [PySem.W.alikeAll]
  | _ :: _, [] => by simp [PySem.W.alikeAll]
  | x :: xs, y :: ys => by simp [PySem.W.alikeAll, PySem.W.alike, alikeI xs ys]
theorem depth_ints (ws : List Int) : PyData.depthAll (ws.map PyData.int) = 0 := by induction ws <;> simp_all [PyData.depthAll, PyData.depth]
theorem GRow.toD {v : PV} (h : GRow v) : ∃ (n : Str) (o : Int) (ws : List Int), PL.toD v = .tuple [.str n, .int o, .tuple (ws.map .int)] ∧ isD v = true := by
  obtain ⟨n, o, ws, rfl, _⟩ := h
  exact ⟨n, o, ws, by simp [PL.toD, toDs, toDs_ints], by simp [isD, isDs, isDs_ints]⟩
theorem grow_sort {xs : List PV} (h : ∀ v ∈ xs, GRow v) : SortOk xs := by
  refine ⟨?_, ?_, .inl ?_, ?_⟩
  · induction xs with
    | nil => rfl
    | cons v xs ih =>
      obtain ⟨_, _, _, _, d⟩ := (h v List.mem_cons_self).toD
      simp [isDs, d, ih fun v m => h v (List.mem_cons_of_mem _ m)]
  · intro d hd e he
    rw [toDs_map, List.mem_map] at hd he
    obtain ⟨v, mv, rfl⟩ := hd
    obtain ⟨u, mu, rfl⟩ := he
    obtain ⟨n, o, ws, e1, _⟩ := (h v mv).toD
    obtain ⟨n', o', ws', e2, _⟩ := (h u mu).toD
    rw [e1, e2]
    simp only [PySem.W.alike, PySem.W.alikeAll, alikeI, Bool.and_self, Bool.true_and, Bool.and_true]
  · intro d hd
    rw [toDs_map, List.mem_map] at hd
    obtain ⟨v, mv, rfl⟩ := hd
    obtain ⟨n, o, ws, e1, _⟩ := (h v mv).toD
    exact ⟨_, _, e1⟩
  · intro d hd
    rw [toDs_map, List.mem_map] at hd
    obtain ⟨v, mv, rfl⟩ := hd
    obtain ⟨n, o, ws, e1, _⟩ := (h v mv).toD
    rw [e1]
    simp [PyData.depth, PyData.depthAll, depth_ints]
theorem sorted_ok {st : Store} {v : PV} {xs : List PV} {Q : PV → Store → Prop} (hv : seqOf st v = some (false, xs)) (h : ∀ v ∈ xs, GRow v)
    (k : ∀ ys : List PV, ys.length = xs.length → (∀ v ∈ ys, GRow v) → Q (.lst ys) st) : Sat (pSorted v st) Q := by
  unfold pSorted
  rw [hv]
  simp only
  rw [if_pos (grow_sort h), sat_ok]
  exact k _ (List.mergeSort_perm ..).length_eq fun v m => h v ((List.mergeSort_perm ..).mem_iff.mp m)
/-- a comprehension over a range -/
theorem comp_rng {i : Nat} {elt : EM} {env : PEnv} {n : Nat} {st : Store} {Q : List PV → Store → Prop} (E : PV → Prop) (I : Store → Prop) (hi : i < env.length) (hn : n ≤ 10000) (h0 : I st)
    (hs : ∀ (j : Nat) t, I t → Sat (elt (env.set i (some (.int (0 + (j : Int))))) t) fun y t' => E y ∧ I t') (hd : ∀ ys t, ys.length = n → (∀ y ∈ ys, E y) → I t → Q ys t) :
    Sat (compL (.one i) tYesM elt (Itms.ok ⟨rngs 0 n, none⟩) (rngs 0 n) env st []) Q := by
  refine comp_inv (fun j acc t => acc.length = j ∧ (∀ y ∈ acc, E y) ∧ I t) (k := 0) ⟨rfl, nofun, h0⟩ ?_ ?_
  · rintro j v t acc hv ⟨hl, hE, hI⟩
    obtain ⟨hj, rfl⟩ := rngs_get hv
    refine ⟨_, rfl, ?_⟩
    rw [sat_yes, if_pos rfl]
    refine (hs j t hI).mono ?_
    rintro y t' ⟨hy, ht⟩
    refine ⟨by rw [sizeLine_eq]; omega, by simp [hl], fun z hz => ?_, ht⟩
    rcases List.mem_append.mp hz with m | m
    · exact hE z m
    · rw [List.mem_singleton.mp m]; exact hy
  · rintro acc t ⟨hl, hE, hI⟩
    rw [rngs_len] at hl
    exact hd acc t (by omega) hE hI
theorem ints_of {ys : List PV} {P : Int → Prop} (h : ∀ y ∈ ys, ∃ w, y = .int w ∧ P w) : ∃ ws : List Int, ys = ints' ws ∧ ∀ w ∈ ws, P w := by
  induction ys with
  | nil => exact ⟨[], rfl, nofun⟩
  | cons y ys ih =>
    obtain ⟨w, rfl, hw⟩ := h y List.mem_cons_self
    obtain ⟨ws, rfl, hws⟩ := ih fun z m => h z (List.mem_cons_of_mem _ m)
    refine ⟨w :: ws, rfl, fun z m => ?_⟩
    rcases List.mem_cons.mp m with rfl | m
    · exact hw
    · exact hws z m
/-- the reduced row is moderate -/
theorem red_mod {ws : List Int} (h : ∀ w ∈ ws, Mod1 w) : ∀ w ∈ (if gcds ws = 0 then ws else ws.map fun w => w / (gcds ws : Int)), Mod1 w := by
  by_cases h0 : gcds ws = 0
  · rw [if_pos h0]; exact h
  · rw [if_neg h0]
    intro w m
    obtain ⟨z, mz, rfl⟩ := List.mem_map.mp m
    have hz := h z mz
    obtain ⟨k, rfl⟩ := Int.eq_ofNat_of_zero_le (show 0 ≤ z by have := hz.1; omega)
    have hd : gcds ws ∣ k := by have := gcds_dvd mz; rwa [Int.natAbs_natCast] at this
    have hk : 0 < k := by have := hz.1; omega
    have hb := hz.2
    rw [Int.natAbs_natCast] at hb
    have e : ((k : Int) / (gcds ws : Int)) = ((k / gcds ws : Nat) : Int) := rfl
    refine ⟨?_, ?_⟩
    · show (1 : Int) ≤ (k : Int) / (gcds ws : Int)
      rw [e]
      have := Nat.div_pos (Nat.le_of_dvd hk hd) (Nat.pos_of_ne_zero h0)
      omega
    · show ((k : Int) / (gcds ws : Int)).natAbs < _
      rw [e, Int.natAbs_natCast]
      exact Nat.lt_of_le_of_lt (Nat.div_le_self ..) hb
theorem red_len {ws : List Int} : (if gcds ws = 0 then ws else ws.map fun w => w / (gcds ws : Int)).length = ws.length := by split <;> simp
theorem mod1_small {i : Int} (h1 : 1 ≤ i) (h2 : i < 1000000) : Mod1 i := ⟨h1, Nat.lt_of_lt_of_le (show i.natAbs < 2 ^ 20 by omega) (Nat.pow_le_pow_right (by decide) (by decide))⟩
theorem seq_mid {f g : SM} {env : PEnv} {st : Store} {N : PEnv → Store → Prop} {R : PV → Store → Prop} (M : PEnv → Store → Prop) (h1 : SatS (f env st) M R) (h2 : ∀ e s, M e s → SatS (g e s) N R) : SatS (sSeq f g env st) N R := by
  rw [ss_seq]
  exact h1.mono h2 fun _ _ z => z
theorem sets_ok {ns : List Int} {l : Nat} {st : Store} {Q : PV → Store → Prop} (hs : SrcAt st l)
    (k : ∀ rows s, rows.length ≤ 10 → (∀ r ∈ rows, GRow r) → SrcAt s l → Gr [l] st s → Q (.tup rows) s) : Sat (m_law_sets [scr ns, .loc l, .int 5, .int 32] st) Q := by
  have hl := hs.lt
  refine sat_body ?_
  unfold f_law_sets
  simp only [sat_ok, sat_bind, sat_v, sat_c, sat_bin, sat_un, sat_test, sat_truth, sat_and, sat_or, sat_not, sat_yes, sat_andv, sat_notv, sat_chain, sat_nil, sat_cons, sat_args, sat_call, sat_callX, sat_meth, sat_one, sat_oNone, sat_oSome, sat_sl, sat_tup, sat_lst, sat_loc, ss_nil, ss_seq, ss_set, ss_expr, ss_ret, ss_retN, ss_if, ss_tg, ss_par, ss_sub, ss_for, sat_comp, setTg, setTgs, wipeP, sizeLine_eq, List.map_cons, List.map_nil, List.length_cons, List.length_nil, List.cons_append, List.nil_append, List.set_cons_zero, List.set_cons_succ, List.getElem?_cons_zero, List.getElem?_cons_succ, Nat.reduceAdd, Nat.reduceSub, Nat.reduceLeDiff, List.reduceReplicate, Option.some.injEq, exists_eq_left', true_and, and_true, Nat.zero_add, o_addI, o_addS, o_addT, o_addL, o_subI, o_mulI, o_fdivI, o_modI, o_powI, o_negI, o_eqI, o_neI, o_eqS, o_neS, o_ltI, o_gtI, o_leI, o_geI, o_ltS, o_geS, o_inS, o_notInS, o_isN, o_isNotN, o_isT, o_isNotT, o_isS, o_isNotS, o_int, o_intB, o_abs, o_str, o_lenT, o_lenL, o_lenF, o_lenS, o_ixT, o_ixL, o_ixF, ixW_0, ixW_1, ixW_2, o_isStr, o_tupL, o_tupT, o_listT, o_listL, o_listLocT, o_gcd, o_bits, o_finF, o_finT, sat_iVal, sat_iEnum, sat_iRange1, sat_iRange2, o_itT, o_itL, o_itF, o_itS, o_enT, o_rng]
  have s0 : SrcAt (st ++ [.lst []] ++ [.lst []]) l := by
    rw [List.append_assoc]; exact hs.gr (L := []) .app (by simp)
  have g0 : Gr [l] st (st ++ [.lst []] ++ [.lst []]) := by rw [List.append_assoc]; exact .app
  have r0 : (st ++ [.lst []] ++ [.lst []])[st.length]? = some (.lst []) := by simp
  have u0 : (st ++ [.lst []] ++ [.lst []])[st.length + 1]? = some (.lst []) := by simp
  simp only [List.length_append, List.length_cons, List.length_nil, Nat.zero_add]
  generalize st ++ [.lst []] ++ [.lst []] = st0 at *
  generalize hrp : st.length = rp at *
  refine draw' s0 (by decide) (by decide) fun r1 s1 _ _ hs1 g1 => ?_
  refine draw' hs1 (by decide) (by decide) fun r2 s2 a0 a1 hs2 g2 => ?_
  simp only [o_addI, o_addS, o_addT, o_addL, o_subI, o_mulI, o_fdivI, o_modI, o_powI, o_negI, o_eqI, o_neI, o_eqS, o_neS, o_ltI, o_gtI, o_leI, o_geI, o_ltS, o_geS, o_inS, o_notInS, o_isN, o_isNotN, o_isT, o_isNotT, o_isS, o_isNotS, o_int, o_intB, o_abs, o_str, o_lenT, o_lenL, o_lenF, o_lenS, o_ixT, o_ixL, o_ixF, ixW_0, ixW_1, ixW_2, o_isStr, o_tupL, o_tupT, o_listT, o_listL, o_listLocT, o_gcd, o_bits, o_finF, o_finT, sat_iVal, sat_iEnum, sat_iRange1, sat_iRange2, o_itT, o_itL, o_itF, o_itS, o_enT, o_rng]
  refine draw_len a0 (by show r2 < 4; omega) fun y hy => ?_
  obtain ⟨c, rfl, hc⟩ : ∃ c : Int, y = .int c ∧ 0 ≤ c ∧ c ≤ 1 := by
    simp only [List.mem_cons, List.not_mem_nil, or_false] at hy
    rcases hy with rfl | rfl | rfl | rfl <;> exact ⟨_, rfl, by decide, by decide⟩
  refine draw' hs2 (by decide) (by decide) fun r3 s3 b0 b1 hs3 g3 => ?_
  simp only [o_addI, o_addS, o_addT, o_addL, o_subI, o_mulI, o_fdivI, o_modI, o_powI, o_negI, o_eqI, o_neI, o_eqS, o_neS, o_ltI, o_gtI, o_leI, o_geI, o_ltS, o_geS, o_inS, o_notInS, o_isN, o_isNotN, o_isT, o_isNotT, o_isS, o_isNotS, o_int, o_intB, o_abs, o_str, o_lenT, o_lenL, o_lenF, o_lenS, o_ixT, o_ixL, o_ixF, ixW_0, ixW_1, ixW_2, o_isStr, o_tupL, o_tupT, o_listT, o_listL, o_listLocT, o_gcd, o_bits, o_finF, o_finT, sat_iVal, sat_iEnum, sat_iRange1, sat_iRange2, o_itT, o_itL, o_itF, o_itS, o_enT, o_rng]
  refine ⟨.inl (.inl (by omega)), ?_⟩
  obtain ⟨m, hm, hm5, hm0⟩ : ∃ m : Int, 5 - c * r3 = m ∧ m ≤ 5 ∧ -10 ≤ m := by
    refine ⟨_, rfl, ?_⟩
    rcases (show c = 0 ∨ c = 1 by omega) with rfl | rfl <;> omega
  rw [hm]
  refine ⟨⟨by omega, by omega⟩, ?_⟩
  have g03 : Gr [l] st0 s3 := (g1.trans g2).trans g3
  have nrl : rp ∉ [l] := by simp; omega
  have nul : rp + 1 ∉ [l] := by simp; omega
  refine for_invN (k := 0) (fun i e s => ∃ (rows : List PV) (us : List Str) (most : Int) (kk k8 k9 k10 k11 : Option PV), e = [some (scr ns), some (.loc l), some (.int 5), some (.int most), some (.loc rp), some (.loc (rp + 1)), some (.int r1), kk, k8, k9, k10, k11, none] ∧
      1 ≤ most ∧ most ≤ 32 ∧ s[rp]? = some (.lst rows) ∧ s[rp + 1]? = some (.lst (us.map .str)) ∧ rows.length ≤ i ∧ us.length ≤ i ∧ (∀ r ∈ rows, GRow r) ∧ SrcAt s l ∧ Gr [l, rp, rp + 1] st0 s)
    ⟨[], [], 32, _, _, _, _, _, rfl, by decide, by decide, g03.at' r0 nrl, g03.at' u0 nul, Nat.le_refl _, Nat.le_refl _, nofun, hs3, g03.mono (by simp)⟩ ?_ ?_
  · rintro i v e s hv ⟨rows, us, most, kk, k8, k9, k10, k11, rfl, hm1, hm2, hr, hu, lr, lu, gr, hsr, g4⟩
    obtain ⟨hi, rfl⟩ := rngs_get hv
    refine ⟨_, rfl, ?_⟩
    have nrl' : rp ∉ [l] := nrl
    -- the count
    refine seq_mid (fun e t => ∃ cnt : Int, 1 ≤ cnt ∧ cnt ≤ 4 ∧ e = ([some (scr ns), some (PV.loc l), some (PV.int 5), some (PV.int (most)), some (PV.loc rp), some (PV.loc (rp + 1)), some (PV.int r1), some (PV.int (0 + (i : Int))), some (PV.int cnt), k9, k10, k11, none] : PEnv) ∧ SrcAt t l ∧ Gr [l] s t) ?_ ?_
    · simp only [sat_ok, sat_bind, sat_v, sat_c, sat_bin, sat_un, sat_test, sat_truth, sat_and, sat_or, sat_not, sat_yes, sat_andv, sat_notv, sat_chain, sat_nil, sat_cons, sat_args, sat_call, sat_callX, sat_meth, sat_one, sat_oNone, sat_oSome, sat_sl, sat_tup, sat_lst, sat_loc, ss_nil, ss_seq, ss_set, ss_expr, ss_ret, ss_retN, ss_if, ss_tg, ss_par, ss_sub, ss_for, sat_comp, setTg, setTgs, wipeP, sizeLine_eq, List.map_cons, List.map_nil, List.length_cons, List.length_nil, List.cons_append, List.nil_append, List.set_cons_zero, List.set_cons_succ, List.getElem?_cons_zero, List.getElem?_cons_succ, Nat.reduceAdd, Nat.reduceSub, Nat.reduceLeDiff, List.reduceReplicate, Option.some.injEq, exists_eq_left', true_and, and_true, Nat.zero_add, o_addI, o_addS, o_addT, o_addL, o_subI, o_mulI, o_fdivI, o_modI, o_powI, o_negI, o_eqI, o_neI, o_eqS, o_neS, o_ltI, o_gtI, o_leI, o_geI, o_ltS, o_geS, o_inS, o_notInS, o_isN, o_isNotN, o_isT, o_isNotT, o_isS, o_isNotS, o_int, o_intB, o_abs, o_str, o_lenT, o_lenL, o_lenF, o_lenS, o_ixT, o_ixL, o_ixF, ixW_0, ixW_1, ixW_2, o_isStr, o_tupL, o_tupT, o_listT, o_listL, o_listLocT, o_gcd, o_bits, o_finF, o_finT, sat_iVal, sat_iEnum, sat_iRange1, sat_iRange2, o_itT, o_itL, o_itF, o_itS, o_enT, o_rng]
      refine draw' hsr (by decide) (by decide) fun q1 t1 c0 c1 ht1 f1 => ?_
      simp only [o_addI, o_addS, o_addT, o_addL, o_subI, o_mulI, o_fdivI, o_modI, o_powI, o_negI, o_eqI, o_neI, o_eqS, o_neS, o_ltI, o_gtI, o_leI, o_geI, o_ltS, o_geS, o_inS, o_notInS, o_isN, o_isNotN, o_isT, o_isNotT, o_isS, o_isNotS, o_int, o_intB, o_abs, o_str, o_lenT, o_lenL, o_lenF, o_lenS, o_ixT, o_ixL, o_ixF, ixW_0, ixW_1, ixW_2, o_isStr, o_tupL, o_tupT, o_listT, o_listL, o_listLocT, o_gcd, o_bits, o_finF, o_finT, sat_iVal, sat_iEnum, sat_iRange1, sat_iRange2, o_itT, o_itL, o_itF, o_itS, o_enT, o_rng]
      refine draw_len c0 (by show q1 < 8; omega) fun y hy => ?_
      obtain ⟨cnt, rfl, hcn⟩ : ∃ c : Int, y = .int c ∧ 1 ≤ c ∧ c ≤ 4 := by
        simp only [List.mem_cons, List.not_mem_nil, or_false] at hy
        rcases hy with rfl | rfl | rfl | rfl | rfl | rfl | rfl | rfl <;> exact ⟨_, rfl, by decide, by decide⟩
      exact ⟨cnt, hcn.1, hcn.2, rfl, ht1, f1⟩
    rintro e t ⟨cnt, c1, c2, rfl, ht, f1⟩
    refine seq_mid (fun e t' => ∃ cnt : Int, 1 ≤ cnt ∧ cnt ≤ 4 ∧ cnt ≤ most ∧ e = ([some (scr ns), some (PV.loc l), some (PV.int 5), some (PV.int (most)), some (PV.loc rp), some (PV.loc (rp + 1)), some (PV.int r1), some (PV.int (0 + (i : Int))), some (PV.int cnt), k9, k10, k11, none] : PEnv) ∧ t' = t) ?_ ?_
    · simp only [sat_ok, sat_bind, sat_v, sat_c, sat_bin, sat_un, sat_test, sat_truth, sat_and, sat_or, sat_not, sat_yes, sat_andv, sat_notv, sat_chain, sat_nil, sat_cons, sat_args, sat_call, sat_callX, sat_meth, sat_one, sat_oNone, sat_oSome, sat_sl, sat_tup, sat_lst, sat_loc, ss_nil, ss_seq, ss_set, ss_expr, ss_ret, ss_retN, ss_if, ss_tg, ss_par, ss_sub, ss_for, sat_comp, setTg, setTgs, wipeP, sizeLine_eq, List.map_cons, List.map_nil, List.length_cons, List.length_nil, List.cons_append, List.nil_append, List.set_cons_zero, List.set_cons_succ, List.getElem?_cons_zero, List.getElem?_cons_succ, Nat.reduceAdd, Nat.reduceSub, Nat.reduceLeDiff, List.reduceReplicate, Option.some.injEq, exists_eq_left', true_and, and_true, Nat.zero_add, o_addI, o_addS, o_addT, o_addL, o_subI, o_mulI, o_fdivI, o_modI, o_powI, o_negI, o_eqI, o_neI, o_eqS, o_neS, o_ltI, o_gtI, o_leI, o_geI, o_ltS, o_geS, o_inS, o_notInS, o_isN, o_isNotN, o_isT, o_isNotT, o_isS, o_isNotS, o_int, o_intB, o_abs, o_str, o_lenT, o_lenL, o_lenF, o_lenS, o_ixT, o_ixL, o_ixF, ixW_0, ixW_1, ixW_2, o_isStr, o_tupL, o_tupT, o_listT, o_listL, o_listLocT, o_gcd, o_bits, o_finF, o_finT, sat_iVal, sat_iEnum, sat_iRange1, sat_iRange2, o_itT, o_itL, o_itF, o_itS, o_enT, o_rng]
      split
      · exact ⟨1, by decide, by decide, hm1, by first | rfl | exact ⟨rfl, rfl⟩⟩
      · rename_i h
        exact ⟨cnt, c1, c2, by simpa using h, by first | rfl | exact ⟨rfl, rfl⟩⟩
    rintro e t' ⟨cnt, d1, d2, d3, rfl, rfl⟩
    have hmost : 1 ≤ most / cnt := by
      rw [Int.le_ediv_iff_mul_le (by omega)]; omega
    have hmost2 : most / cnt ≤ 32 := Int.le_trans (Int.ediv_le_self _ (by omega)) hm2
    -- most, the owner
    refine seq_mid (fun e t => e = ([some (scr ns), some (PV.loc l), some (PV.int 5), some (PV.int (most / cnt)), some (PV.loc rp), some (PV.loc (rp + 1)), some (PV.int r1), some (PV.int (0 + (i : Int))), some (PV.int cnt), k9, k10, k11, none] : PEnv) ∧ t = t') ?_ ?_
    · simp only [sat_ok, sat_bind, sat_v, sat_c, sat_bin, sat_un, sat_test, sat_truth, sat_and, sat_or, sat_not, sat_yes, sat_andv, sat_notv, sat_chain, sat_nil, sat_cons, sat_args, sat_call, sat_callX, sat_meth, sat_one, sat_oNone, sat_oSome, sat_sl, sat_tup, sat_lst, sat_loc, ss_nil, ss_seq, ss_set, ss_expr, ss_ret, ss_retN, ss_if, ss_tg, ss_par, ss_sub, ss_for, sat_comp, setTg, setTgs, wipeP, sizeLine_eq, List.map_cons, List.map_nil, List.length_cons, List.length_nil, List.cons_append, List.nil_append, List.set_cons_zero, List.set_cons_succ, List.getElem?_cons_zero, List.getElem?_cons_succ, Nat.reduceAdd, Nat.reduceSub, Nat.reduceLeDiff, List.reduceReplicate, Option.some.injEq, exists_eq_left', true_and, and_true, Nat.zero_add, o_addI, o_addS, o_addT, o_addL, o_subI, o_mulI, o_fdivI, o_modI, o_powI, o_negI, o_eqI, o_neI, o_eqS, o_neS, o_ltI, o_gtI, o_leI, o_geI, o_ltS, o_geS, o_inS, o_notInS, o_isN, o_isNotN, o_isT, o_isNotT, o_isS, o_isNotS, o_int, o_intB, o_abs, o_str, o_lenT, o_lenL, o_lenF, o_lenS, o_ixT, o_ixL, o_ixF, ixW_0, ixW_1, ixW_2, o_isStr, o_tupL, o_tupT, o_listT, o_listL, o_listLocT, o_gcd, o_bits, o_finF, o_finT, sat_iVal, sat_iEnum, sat_iRange1, sat_iRange2, o_itT, o_itL, o_itF, o_itS, o_enT, o_rng]
      exact ⟨by omega, Nat.lt_of_le_of_lt (Nat.log2_le_self _) (by omega)⟩
    rintro e t ⟨rfl, rfl⟩
    refine seq_mid (fun e t' => ∃ ow : Int, e = ([some (scr ns), some (PV.loc l), some (PV.int 5), some (PV.int (most / cnt)), some (PV.loc rp), some (PV.loc (rp + 1)), some (PV.int r1), some (PV.int (0 + (i : Int))), some (PV.int cnt), some (PV.int ow), k10, k11, none] : PEnv) ∧ SrcAt t' l ∧ Gr [l] s t') ?_ ?_
    · simp only [sat_ok, sat_bind, sat_v, sat_c, sat_bin, sat_un, sat_test, sat_truth, sat_and, sat_or, sat_not, sat_yes, sat_andv, sat_notv, sat_chain, sat_nil, sat_cons, sat_args, sat_call, sat_callX, sat_meth, sat_one, sat_oNone, sat_oSome, sat_sl, sat_tup, sat_lst, sat_loc, ss_nil, ss_seq, ss_set, ss_expr, ss_ret, ss_retN, ss_if, ss_tg, ss_par, ss_sub, ss_for, sat_comp, setTg, setTgs, wipeP, sizeLine_eq, List.map_cons, List.map_nil, List.length_cons, List.length_nil, List.cons_append, List.nil_append, List.set_cons_zero, List.set_cons_succ, List.getElem?_cons_zero, List.getElem?_cons_succ, Nat.reduceAdd, Nat.reduceSub, Nat.reduceLeDiff, List.reduceReplicate, Option.some.injEq, exists_eq_left', true_and, and_true, Nat.zero_add, o_addI, o_addS, o_addT, o_addL, o_subI, o_mulI, o_fdivI, o_modI, o_powI, o_negI, o_eqI, o_neI, o_eqS, o_neS, o_ltI, o_gtI, o_leI, o_geI, o_ltS, o_geS, o_inS, o_notInS, o_isN, o_isNotN, o_isT, o_isNotT, o_isS, o_isNotS, o_int, o_intB, o_abs, o_str, o_lenT, o_lenL, o_lenF, o_lenS, o_ixT, o_ixL, o_ixF, ixW_0, ixW_1, ixW_2, o_isStr, o_tupL, o_tupT, o_listT, o_listL, o_listLocT, o_gcd, o_bits, o_finF, o_finT, sat_iVal, sat_iEnum, sat_iRange1, sat_iRange2, o_itT, o_itL, o_itF, o_itS, o_enT, o_rng]
      refine ⟨by decide, by decide, ?_⟩
      refine draw' ht (by decide) (by decide) fun q2 t2 e0 e1 ht2 f2 => ?_
      simp only [o_addI, o_addS, o_addT, o_addL, o_subI, o_mulI, o_fdivI, o_modI, o_powI, o_negI, o_eqI, o_neI, o_eqS, o_neS, o_ltI, o_gtI, o_leI, o_geI, o_ltS, o_geS, o_inS, o_notInS, o_isN, o_isNotN, o_isT, o_isNotT, o_isS, o_isNotS, o_int, o_intB, o_abs, o_str, o_lenT, o_lenL, o_lenF, o_lenS, o_ixT, o_ixL, o_ixF, ixW_0, ixW_1, ixW_2, o_isStr, o_tupL, o_tupT, o_listT, o_listL, o_listLocT, o_gcd, o_bits, o_finF, o_finT, sat_iVal, sat_iEnum, sat_iRange1, sat_iRange2, o_itT, o_itL, o_itF, o_itS, o_enT, o_rng]
      refine draw_len e0 (by show q2 < 4; omega) fun y hy => ?_
      obtain ⟨ow, rfl⟩ : ∃ c : Int, y = .int c := by
        simp only [List.mem_cons, List.not_mem_nil, or_false] at hy
        rcases hy with rfl | rfl | rfl | rfl <;> exact ⟨_, rfl⟩
      exact ⟨ow, rfl, ht2, f1.trans f2⟩
    rintro e t2 ⟨ow, rfl, ht2, f2⟩
    -- the weights
    refine seq_mid (fun e t => ∃ ws : List Int, e = ([some (scr ns), some (PV.loc l), some (PV.int 5), some (PV.int (most / cnt)), some (PV.loc rp), some (PV.loc (rp + 1)), some (PV.int r1), some (PV.int (0 + (i : Int))), some (PV.int cnt), some (PV.int ow), some (PV.lst (ints' ws)), k11, none] : PEnv) ∧ (ws.length : Int) = cnt ∧ (∀ w ∈ ws, Mod1 w) ∧ t = t2) ?_ ?_
    · simp only [sat_ok, sat_bind, sat_v, sat_c, sat_bin, sat_un, sat_test, sat_truth, sat_and, sat_or, sat_not, sat_yes, sat_andv, sat_notv, sat_chain, sat_nil, sat_cons, sat_args, sat_call, sat_callX, sat_meth, sat_one, sat_oNone, sat_oSome, sat_sl, sat_tup, sat_lst, sat_loc, ss_nil, ss_seq, ss_set, ss_expr, ss_ret, ss_retN, ss_if, ss_tg, ss_par, ss_sub, ss_for, sat_comp, setTg, setTgs, wipeP, sizeLine_eq, List.map_cons, List.map_nil, List.length_cons, List.length_nil, List.cons_append, List.nil_append, List.set_cons_zero, List.set_cons_succ, List.getElem?_cons_zero, List.getElem?_cons_succ, Nat.reduceAdd, Nat.reduceSub, Nat.reduceLeDiff, List.reduceReplicate, Option.some.injEq, exists_eq_left', true_and, and_true, Nat.zero_add, o_addI, o_addS, o_addT, o_addL, o_subI, o_mulI, o_fdivI, o_modI, o_powI, o_negI, o_eqI, o_neI, o_eqS, o_neS, o_ltI, o_gtI, o_leI, o_geI, o_ltS, o_geS, o_inS, o_notInS, o_isN, o_isNotN, o_isT, o_isNotT, o_isS, o_isNotS, o_int, o_intB, o_abs, o_str, o_lenT, o_lenL, o_lenF, o_lenS, o_ixT, o_ixL, o_ixF, ixW_0, ixW_1, ixW_2, o_isStr, o_tupL, o_tupT, o_listT, o_listL, o_listLocT, o_gcd, o_bits, o_finF, o_finT, sat_iVal, sat_iEnum, sat_iRange1, sat_iRange2, o_itT, o_itL, o_itF, o_itS, o_enT, o_rng]
      refine ⟨⟨by omega, by omega⟩, ?_⟩
      refine comp_rng (fun y => ∃ w, y = .int w ∧ Mod1 w) (fun t => t = t2) (by simp) (by omega) rfl ?_ ?_
      · rintro j t rfl
        simp only [sat_ok, sat_bind, sat_v, sat_c, sat_bin, sat_un, sat_test, sat_truth, sat_and, sat_or, sat_not, sat_yes, sat_andv, sat_notv, sat_chain, sat_nil, sat_cons, sat_args, sat_call, sat_callX, sat_meth, sat_one, sat_oNone, sat_oSome, sat_sl, sat_tup, sat_lst, sat_loc, ss_nil, ss_seq, ss_set, ss_expr, ss_ret, ss_retN, ss_if, ss_tg, ss_par, ss_sub, ss_for, sat_comp, setTg, setTgs, wipeP, sizeLine_eq, List.map_cons, List.map_nil, List.length_cons, List.length_nil, List.cons_append, List.nil_append, List.set_cons_zero, List.set_cons_succ, List.getElem?_cons_zero, List.getElem?_cons_succ, Nat.reduceAdd, Nat.reduceSub, Nat.reduceLeDiff, List.reduceReplicate, Option.some.injEq, exists_eq_left', true_and, and_true, Nat.zero_add]
        exact ⟨1, rfl, mod1_small (by decide) (by decide)⟩
      · rintro ys t hl' hE rfl
        obtain ⟨ws, rfl, hw⟩ := ints_of hE
        try simp only [o_addI, o_addS, o_addT, o_addL, o_subI, o_mulI, o_fdivI, o_modI, o_powI, o_negI, o_eqI, o_neI, o_eqS, o_neS, o_ltI, o_gtI, o_leI, o_geI, o_ltS, o_geS, o_inS, o_notInS, o_isN, o_isNotN, o_isT, o_isNotT, o_isS, o_isNotS, o_int, o_intB, o_abs, o_str, o_lenT, o_lenL, o_lenF, o_lenS, o_ixT, o_ixL, o_ixF, ixW_0, ixW_1, ixW_2, o_isStr, o_tupL, o_tupT, o_listT, o_listL, o_listLocT, o_gcd, o_bits, o_finF, o_finT, sat_iVal, sat_iEnum, sat_iRange1, sat_iRange2, o_itT, o_itL, o_itF, o_itS, o_enT, o_rng]
        exact ⟨ws, rfl, by rw [List.length_map] at hl'; omega, hw, trivial⟩
    rintro e t ⟨ws, rfl, hws, hwm, rfl⟩
    refine seq_mid (fun e t' => ∃ ws : List Int, e = ([some (scr ns), some (PV.loc l), some (PV.int 5), some (PV.int (most / cnt)), some (PV.loc rp), some (PV.loc (rp + 1)), some (PV.int r1), some (PV.int (0 + (i : Int))), some (PV.int cnt), some (PV.int ow), some (PV.lst (ints' ws)), k11, none] : PEnv) ∧ (ws.length : Int) = cnt ∧ (∀ w ∈ ws, Mod1 w) ∧ SrcAt t' l ∧ Gr [l] s t') ?_ ?_
    · simp only [sat_ok, sat_bind, sat_v, sat_c, sat_bin, sat_un, sat_test, sat_truth, sat_and, sat_or, sat_not, sat_yes, sat_andv, sat_notv, sat_chain, sat_nil, sat_cons, sat_args, sat_call, sat_callX, sat_meth, sat_one, sat_oNone, sat_oSome, sat_sl, sat_tup, sat_lst, sat_loc, ss_nil, ss_seq, ss_set, ss_expr, ss_ret, ss_retN, ss_if, ss_tg, ss_par, ss_sub, ss_for, sat_comp, setTg, setTgs, wipeP, sizeLine_eq, List.map_cons, List.map_nil, List.length_cons, List.length_nil, List.cons_append, List.nil_append, List.set_cons_zero, List.set_cons_succ, List.getElem?_cons_zero, List.getElem?_cons_succ, Nat.reduceAdd, Nat.reduceSub, Nat.reduceLeDiff, List.reduceReplicate, Option.some.injEq, exists_eq_left', true_and, and_true, Nat.zero_add, o_addI, o_addS, o_addT, o_addL, o_subI, o_mulI, o_fdivI, o_modI, o_powI, o_negI, o_eqI, o_neI, o_eqS, o_neS, o_ltI, o_gtI, o_leI, o_geI, o_ltS, o_geS, o_inS, o_notInS, o_isN, o_isNotN, o_isT, o_isNotT, o_isS, o_isNotS, o_int, o_intB, o_abs, o_str, o_lenT, o_lenL, o_lenF, o_lenS, o_ixT, o_ixL, o_ixF, ixW_0, ixW_1, ixW_2, o_isStr, o_tupL, o_tupT, o_listT, o_listL, o_listLocT, o_gcd, o_bits, o_finF, o_finT, sat_iVal, sat_iEnum, sat_iRange1, sat_iRange2, o_itT, o_itL, o_itF, o_itS, o_enT, o_rng]
      split
      · refine ⟨⟨by omega, by omega⟩, ?_⟩
        refine comp_rng (fun y => ∃ w, y = .int w ∧ Mod1 w) (fun t' => SrcAt t' l ∧ Gr [l] s t') (by simp) (by omega) ⟨ht2, f2⟩ ?_ ?_
        · rintro j t' ⟨a1, a2⟩
          simp only [sat_ok, sat_bind, sat_v, sat_c, sat_bin, sat_un, sat_test, sat_truth, sat_and, sat_or, sat_not, sat_yes, sat_andv, sat_notv, sat_chain, sat_nil, sat_cons, sat_args, sat_call, sat_callX, sat_meth, sat_one, sat_oNone, sat_oSome, sat_sl, sat_tup, sat_lst, sat_loc, ss_nil, ss_seq, ss_set, ss_expr, ss_ret, ss_retN, ss_if, ss_tg, ss_par, ss_sub, ss_for, sat_comp, setTg, setTgs, wipeP, sizeLine_eq, List.map_cons, List.map_nil, List.length_cons, List.length_nil, List.cons_append, List.nil_append, List.set_cons_zero, List.set_cons_succ, List.getElem?_cons_zero, List.getElem?_cons_succ, Nat.reduceAdd, Nat.reduceSub, Nat.reduceLeDiff, List.reduceReplicate, Option.some.injEq, exists_eq_left', true_and, and_true, Nat.zero_add]
          refine draw' a1 (by decide) (by decide) fun q3 t3 e0 e1 ht3 f3 => ?_
          simp only [o_addI, o_addS, o_addT, o_addL, o_subI, o_mulI, o_fdivI, o_modI, o_powI, o_negI, o_eqI, o_neI, o_eqS, o_neS, o_ltI, o_gtI, o_leI, o_geI, o_ltS, o_geS, o_inS, o_notInS, o_isN, o_isNotN, o_isT, o_isNotT, o_isS, o_isNotS, o_int, o_intB, o_abs, o_str, o_lenT, o_lenL, o_lenF, o_lenS, o_ixT, o_ixL, o_ixF, ixW_0, ixW_1, ixW_2, o_isStr, o_tupL, o_tupT, o_listT, o_listL, o_listLocT, o_gcd, o_bits, o_finF, o_finT, sat_iVal, sat_iEnum, sat_iRange1, sat_iRange2, o_itT, o_itL, o_itF, o_itS, o_enT, o_rng]
          exact ⟨⟨1 + q3, rfl, mod1_small (by omega) (by omega)⟩, ht3, a2.trans f3⟩
        · rintro ys t' hl' hE ⟨a1, a2⟩
          obtain ⟨ws, rfl, hw⟩ := ints_of hE
          try simp only [o_addI, o_addS, o_addT, o_addL, o_subI, o_mulI, o_fdivI, o_modI, o_powI, o_negI, o_eqI, o_neI, o_eqS, o_neS, o_ltI, o_gtI, o_leI, o_geI, o_ltS, o_geS, o_inS, o_notInS, o_isN, o_isNotN, o_isT, o_isNotT, o_isS, o_isNotS, o_int, o_intB, o_abs, o_str, o_lenT, o_lenL, o_lenF, o_lenS, o_ixT, o_ixL, o_ixF, ixW_0, ixW_1, ixW_2, o_isStr, o_tupL, o_tupT, o_listT, o_listL, o_listLocT, o_gcd, o_bits, o_finF, o_finT, sat_iVal, sat_iEnum, sat_iRange1, sat_iRange2, o_itT, o_itL, o_itF, o_itS, o_enT, o_rng]
          exact ⟨ws, rfl, by rw [List.length_map] at hl'; omega, hw, a1, a2⟩
      · exact ⟨ws, rfl, hws, hwm, ht2, f2⟩
    rintro e t3 ⟨ws, rfl, hws, hwm, ht3, f3⟩
    have hu3 := f3.at' hu nul
    have hr3 := f3.at' hr nrl
    simp only [sat_ok, sat_bind, sat_v, sat_c, sat_bin, sat_un, sat_test, sat_truth, sat_and, sat_or, sat_not, sat_yes, sat_andv, sat_notv, sat_chain, sat_nil, sat_cons, sat_args, sat_call, sat_callX, sat_meth, sat_one, sat_oNone, sat_oSome, sat_sl, sat_tup, sat_lst, sat_loc, ss_nil, ss_seq, ss_set, ss_expr, ss_ret, ss_retN, ss_if, ss_tg, ss_par, ss_sub, ss_for, sat_comp, setTg, setTgs, wipeP, sizeLine_eq, List.map_cons, List.map_nil, List.length_cons, List.length_nil, List.cons_append, List.nil_append, List.set_cons_zero, List.set_cons_succ, List.getElem?_cons_zero, List.getElem?_cons_succ, Nat.reduceAdd, Nat.reduceSub, Nat.reduceLeDiff, List.reduceReplicate, Option.some.injEq, exists_eq_left', true_and, and_true, Nat.zero_add, o_addI, o_addS, o_addT, o_addL, o_subI, o_mulI, o_fdivI, o_modI, o_powI, o_negI, o_eqI, o_neI, o_eqS, o_neS, o_ltI, o_gtI, o_leI, o_geI, o_ltS, o_geS, o_inS, o_notInS, o_isN, o_isNotN, o_isT, o_isNotT, o_isS, o_isNotS, o_int, o_intB, o_abs, o_str, o_lenT, o_lenL, o_lenF, o_lenS, o_ixT, o_ixL, o_ixF, ixW_0, ixW_1, ixW_2, o_isStr, o_tupL, o_tupT, o_listT, o_listL, o_listLocT, o_gcd, o_bits, o_finF, o_finT, sat_iVal, sat_iEnum, sat_iRange1, sat_iRange2, o_itT, o_itL, o_itF, o_itS, o_enT, o_rng]
    refine name' ht3 (Use.at' (n := 100) hu3 (by omega) (by omega)) (by decide) fun z t4 hz ht4 f4 => ?_
    have hu4 := f4.at' hu3 nul
    have hr4 := f4.at' hr3 nrl
    refine ⟨o_isL hu4, ?_⟩
    rw [o_app hu4]
    refine ⟨by rw [sizeLine_eq, List.length_map]; omega, ?_⟩
    have hup := lt_of_some hu4
    have g5 : Gr [rp + 1] t4 (t4.set (rp + 1) (.lst (us.map .str ++ [.str z]))) := .set (by simp)
    have hr5 := g5.at' hr4 (by simp)
    have hs5 : SrcAt (t4.set (rp + 1) (.lst (us.map .str ++ [.str z]))) l := ht4.gr g5 (by simp; omega)
    have hu5 : (t4.set (rp + 1) (.lst (us.map .str ++ [.str z])))[rp + 1]? = some (.lst (us.map .str ++ [.str z])) := List.getElem?_set_self hup
    refine ⟨o_isL hr5, ?_⟩
    refine reduced_ok (.inl (.inr (.inl rfl))) hwm (by omega) fun _ => ?_
    rw [o_app hr5]
    refine ⟨by rw [sizeLine_eq]; omega, ?_⟩
    have g6 : Gr [rp] (t4.set (rp + 1) (.lst (us.map .str ++ [.str z]))) _ := .set (l := rp) (o := .lst (rows ++ [.tup [.str z, .int ow, .tup (ints' (if gcds ws = 0 then ws else ws.map fun w => w / (gcds ws : Int)))]])) (by simp)
    refine ⟨rows ++ [.tup [.str z, .int ow, .tup (ints' (if gcds ws = 0 then ws else ws.map fun w => w / (gcds ws : Int)))]], us ++ [z], most / cnt, _, _, _, _, _, rfl, hmost, hmost2, List.getElem?_set_self (lt_of_some hr5), ?_, by simp; omega, by simp; omega, ?_, hs5.gr g6 (by simp; omega), ?_⟩
    · rw [List.map_append]
      exact g6.at' hu5 (by simp)
    · intro r hrr
      rcases List.mem_append.mp hrr with q | q
      · exact gr r q
      · rw [List.mem_singleton.mp q]
        exact ⟨z, ow, _, rfl, by omega, by rw [red_len]; omega, by rw [red_len]; omega, red_mod hwm⟩
    · exact g4.trans (((f3.trans f4).mono (by simp)).trans ((g5.mono (by simp)).trans (g6.mono (by simp))))
  · rintro e s ⟨rows, us, most, kk, k8, k9, k10, k11, rfl, hm1, hm2, hr, hu, lr, lu, gr, hsr, g4⟩
    rw [rngs_len] at lr
    simp only [sat_ok, sat_bind, sat_v, sat_c, sat_bin, sat_un, sat_test, sat_truth, sat_and, sat_or, sat_not, sat_yes, sat_andv, sat_notv, sat_chain, sat_nil, sat_cons, sat_args, sat_call, sat_callX, sat_meth, sat_one, sat_oNone, sat_oSome, sat_sl, sat_tup, sat_lst, sat_loc, ss_nil, ss_seq, ss_set, ss_expr, ss_ret, ss_retN, ss_if, ss_tg, ss_par, ss_sub, ss_for, sat_comp, setTg, setTgs, wipeP, sizeLine_eq, List.map_cons, List.map_nil, List.length_cons, List.length_nil, List.cons_append, List.nil_append, List.set_cons_zero, List.set_cons_succ, List.getElem?_cons_zero, List.getElem?_cons_succ, Nat.reduceAdd, Nat.reduceSub, Nat.reduceLeDiff, List.reduceReplicate, Option.some.injEq, exists_eq_left', true_and, and_true, Nat.zero_add, o_addI, o_addS, o_addT, o_addL, o_subI, o_mulI, o_fdivI, o_modI, o_powI, o_negI, o_eqI, o_neI, o_eqS, o_neS, o_ltI, o_gtI, o_leI, o_geI, o_ltS, o_geS, o_inS, o_notInS, o_isN, o_isNotN, o_isT, o_isNotT, o_isS, o_isNotS, o_int, o_intB, o_abs, o_str, o_lenT, o_lenL, o_lenF, o_lenS, o_ixT, o_ixL, o_ixF, ixW_0, ixW_1, ixW_2, o_isStr, o_tupL, o_tupT, o_listT, o_listL, o_listLocT, o_gcd, o_bits, o_finF, o_finT, sat_iVal, sat_iEnum, sat_iRange1, sat_iRange2, o_itT, o_itL, o_itF, o_itS, o_enT, o_rng]
    refine sorted_ok (xs := rows) (by unfold seqOf; simp only [hr]) gr fun ys hl' hg => ?_
    simp only [o_addI, o_addS, o_addT, o_addL, o_subI, o_mulI, o_fdivI, o_modI, o_powI, o_negI, o_eqI, o_neI, o_eqS, o_neS, o_ltI, o_gtI, o_leI, o_geI, o_ltS, o_geS, o_inS, o_notInS, o_isN, o_isNotN, o_isT, o_isNotT, o_isS, o_isNotS, o_int, o_intB, o_abs, o_str, o_lenT, o_lenL, o_lenF, o_lenS, o_ixT, o_ixL, o_ixF, ixW_0, ixW_1, ixW_2, o_isStr, o_tupL, o_tupT, o_listT, o_listL, o_listLocT, o_gcd, o_bits, o_finF, o_finT, sat_iVal, sat_iEnum, sat_iRange1, sat_iRange2, o_itT, o_itL, o_itF, o_itS, o_enT, o_rng]
    refine k ys s (by omega) hg hsr ?_
    refine (g0.mono (L' := [l, rp, rp + 1]) (by simp)).trans g4 |>.cut ?_
    intro j hj hlt
    simp only [List.mem_cons, List.not_mem_nil, or_false] at hj ⊢
    omega
end PL
/-! PL, part t: the tree of a drawn game. -/
namespace PL
open PySem PySem.Spec PyProof.Rows L2
inductive TreeOk (c : Nat) : Nat → PV → Prop
  | leaf {d : Nat} {z : Str} : z.length ≤ 60 → TreeOk c d (.str z)
  | node {d : Nat} {n : Str} {cs : List PV} : n.length ≤ 60 → cs.length ≤ c → (∀ x ∈ cs, TreeOk c d x) → TreeOk c (d + 1) (.tup [.str n, .tup cs])
theorem TreeOk.mono {c c' : Nat} (hc : c ≤ c') : ∀ {d d' : Nat} {v : PV}, TreeOk c d v → d ≤ d' → TreeOk c' d' v
  | _, _, _, .leaf h, _ => .leaf h
  | d + 1, 0, _, .node h1 h2 h3, h => by omega
  | d + 1, d' + 1, _, .node h1 h2 h3, h => .node h1 (Nat.le_trans h2 hc) fun x m => (h3 x m).mono hc (by omega)
theorem log2_k {i : Int} {n : Nat} (h0 : 0 ≤ i) (h1 : i ≤ n) (h2 : n < 9000 := by omega) : i.natAbs.log2 < 9000 := Nat.lt_of_le_of_lt (Nat.log2_le_self _) (by omega)
/-- a comprehension that picks from a list -/
theorem comp_pick {i : Nat} {test : TM} {env : PEnv} {xs : List PV} {st : Store} {Q : List PV → Store → Prop} (P : PV → Bool) (hi : i < env.length) (hn : xs.length ≤ 10000)
    (hs : ∀ x ∈ xs, test (env.set i (some x)) st = .ok (P x) st) (hd : Q (xs.filter P) st) :
    Sat (compL (.one i) test (eVar i) (Itms.ok ⟨xs, none⟩) xs env st []) Q := by
  refine comp_inv (fun j acc t => t = st ∧ acc = (xs.take j).filter P) (k := 0) ⟨rfl, rfl⟩ ?_ ?_
  · rintro j v t acc hv ⟨rfl, rfl⟩
    refine ⟨_, rfl, ?_⟩
    rw [hs v (List.mem_of_getElem? hv), sat_ok]
    have e1 : xs.take (0 + j + 1) = xs.take (0 + j) ++ [v] := by
      rw [Nat.zero_add, List.take_add_one, hv]; rfl
    rw [e1, List.filter_append]
    cases hp : P v with
    | true =>
      rw [if_pos rfl, sat_var (List.getElem?_set_self hi)]
      refine ⟨?_, rfl, by simp [hp]⟩
      have := List.length_filter_le P (xs.take (0 + j))
      rw [sizeLine_eq]
      have := List.length_take_le (0 + j) xs
      have h3 : (xs.take (0 + j)).length ≤ xs.length := by simp; omega
      omega
    | false =>
      rw [if_neg (by simp)]
      exact ⟨rfl, by simp [hp]⟩
  · rintro acc t ⟨rfl, rfl⟩
    rw [Nat.zero_add, List.take_length]
    exact hd
def nameOf : PV → Str
  | .tup (.str n :: _) => n
  | _ => ""
theorem GRow.name {v : PV} (h : GRow v) : ∃ o ws, v = .tup [.str (nameOf v), .int o, .tup (ints' ws)] ∧ (nameOf v).length ≤ 40 ∧ 1 ≤ ws.length ∧ ws.length ≤ 64 ∧ ∀ w ∈ ws, Mod1 w := by
  obtain ⟨n, o, ws, rfl, h⟩ := h
  exact ⟨o, ws, rfl, h⟩
theorem row_ix0 {x : PV} {st : Store} {Q : PV → Store → Prop} (h : GRow x) : Sat (pIx x (.int 0) st) Q = Q (.str (nameOf x)) st := by
  obtain ⟨o, ws, e, _⟩ := h.name
  generalize hn : nameOf x = n at *
  rw [e, o_ixT, ixW_0]
theorem row_ix2 {x : PV} (h : GRow x) : ∃ ws : List Int, 1 ≤ ws.length ∧ ws.length ≤ 64 ∧ ∀ (st : Store) (Q : PV → Store → Prop), Sat (pIx x (.int 2) st) Q = Q (.tup (ints' ws)) st := by
  obtain ⟨o, ws, e, _, h1, h2, _⟩ := h.name
  refine ⟨ws, h1, h2, fun st Q => ?_⟩
  generalize hn : nameOf x = n at *
  rw [e, o_ixT, ixW_2]
theorem row_is {x : PV} {st : Store} {Q : PV → Store → Prop} (h : GRow x) : Sat (pIs x .non st) Q = Q (.bl false) st := by
  obtain ⟨n, o, ws, rfl, _⟩ := h
  exact o_isT
theorem row_isNot {x : PV} {st : Store} {Q : PV → Store → Prop} (h : GRow x) : Sat (pIsNot x .non st) Q = Q (.bl true) st := by
  obtain ⟨n, o, ws, rfl, _⟩ := h
  exact o_isNotT
/-- rest = [other for other in free if other[0] != row[0]] -/
theorem rest_test {env : PEnv} {row : PV} {st : Store} {a b : Nat} (hr : GRow row) (hb : env[b]? = some (some row)) (hab : a ≠ b) (ha : a < env.length) : ∀ x, GRow x →
    eTest (eBin pNe (eBin pIx (eVar a) (eC (.int 0))) (eBin pIx (eVar b) (eC (.int 0)))) (env.set a (some x)) st = .ok (!decide (nameOf x = nameOf row)) st := by
  intro x hx
  have e1 : eVar a (env.set a (some x)) st = .ok x st := by unfold eVar; rw [List.getElem?_set_self ha]
  have e2 : eVar b (env.set a (some x)) st = .ok row st := by unfold eVar; rw [List.getElem?_set_ne hab, hb]
  have q : ∀ Q : Bool → Store → Prop, Sat (eTest (eBin pNe (eBin pIx (eVar a) (eC (.int 0))) (eBin pIx (eVar b) (eC (.int 0)))) (env.set a (some x)) st) Q = Q (!decide (nameOf x = nameOf row)) st := by
    intro Q
    rw [sat_test, sat_bin, sat_bin, e1, sat_ok, sat_c, row_ix0 hx, sat_bin, e2, sat_ok, sat_c, row_ix0 hr, o_neS, sat_truth]
  obtain ⟨y, s, h1, h2⟩ := (show Sat (eTest (eBin pNe (eBin pIx (eVar a) (eC (.int 0))) (eBin pIx (eVar b) (eC (.int 0)))) (env.set a (some x)) st) (fun y s => y = (!decide (nameOf x = nameOf row)) ∧ s = st) from by rw [q]; exact ⟨rfl, rfl⟩)
  rw [h1, h2.1, h2.2]
def Room (st : Store) (m : Nat) : Prop := ∃ r : Int, st[m]? = some (.lst [.int r])
theorem Room.gr {L : List Nat} {st s : Store} {m : Nat} (h : Room st m) (g : Gr L st s) (n : m ∉ L) : Room s m := let ⟨r, e⟩ := h; ⟨r, g.at' e n⟩
theorem ixN1_0 : ixN 1 0 = some 0 := rfl
theorem tree_ok {ns : List Int} {l op m : Nat} {us : List Str} (hu0 : us ≠ []) (hul : us.length ≤ 1000) (hus : ∀ u ∈ us, u.length ≤ 40) (nlo : l ≠ op) (nlm : l ≠ m) (nom : op ≠ m) : ∀ (n : Nat) (rows : List PV) (wish : PV) (st : Store) (Q : PV → Store → Prop),
    rows.length < n → rows.length ≤ 100 → (∀ r ∈ rows, GRow r) → (wish = .non ∨ wish ∈ rows) → SrcAt st l → Room st m → st[op]? = some (.lst (us.map .str)) →
    (∀ v s, TreeOk 64 rows.length v → SrcAt s l → Room s m → Gr [l, m] st s → Q v s) →
    Sat (fuelF 14 f_law_tree n [scr ns, .loc l, .lst rows, .loc op, .loc m, wish] st) Q
  | 0, rows, wish, st, Q, hn, _, _, _, _, _, _, _ => absurd hn (Nat.not_lt_zero _)
  | n + 1, rows, wish, st, Q, hn, hn2, hg, hw, hs, hm, ho, k => by
    obtain ⟨r0, hr0⟩ := hm
    have hml := lt_of_some hr0
    obtain ⟨wb, hwb, hwn⟩ : ∃ wb : Bool, (∀ (st : Store) (Q : PV → Store → Prop), Sat (pIs wish .non st) Q = Q (.bl wb) st ∧ Sat (pIsNot wish .non st) Q = Q (.bl (!wb)) st) ∧ (wb = false → wish ∈ rows) := by
      rcases hw with rfl | hw
      · exact ⟨true, fun st Q => ⟨o_isN, o_isNotN⟩, nofun⟩
      · exact ⟨false, fun st Q => ⟨row_is (hg _ hw), row_isNot (hg _ hw)⟩, fun _ => hw⟩
    refine sat_body ?_
    unfold f_law_tree
    simp only [List.map_cons, List.map_nil, List.length_cons, List.length_nil, Nat.reduceAdd, Nat.reduceSub, List.reduceReplicate, List.cons_append, List.nil_append]
    -- room
    refine seq_mid (fun e s => e = ([some (scr ns), some (PV.loc l), some (PV.lst rows), some (PV.loc op), some (PV.loc m), some wish, none, none, none, none, none, none, none, none] : PEnv) ∧ SrcAt s l ∧ Room s m ∧ Gr [l, m] st s) ?_ ?_
    · simp only [sat_ok, sat_bind, sat_v, sat_c, sat_bin, sat_un, sat_test, sat_truth, sat_and, sat_or, sat_not, sat_yes, sat_andv, sat_notv, sat_chain, sat_nil, sat_cons, sat_args, sat_call, sat_callX, sat_meth, sat_one, sat_oNone, sat_oSome, sat_sl, sat_tup, sat_lst, sat_loc, ss_nil, ss_seq, ss_set, ss_expr, ss_ret, ss_retN, ss_if, ss_tg, ss_par, ss_sub, ss_for, sat_comp, setTg, setTgs, wipeP, sizeLine_eq, List.map_cons, List.map_nil, List.length_cons, List.length_nil, List.cons_append, List.nil_append, List.set_cons_zero, List.set_cons_succ, List.getElem?_cons_zero, List.getElem?_cons_succ, Nat.reduceAdd, Nat.reduceSub, Nat.reduceLeDiff, List.reduceReplicate, Option.some.injEq, exists_eq_left', true_and, and_true, Nat.zero_add, o_addI, o_addS, o_addT, o_addL, o_subI, o_mulI, o_fdivI, o_modI, o_powI, o_negI, o_eqI, o_neI, o_eqS, o_neS, o_ltI, o_gtI, o_leI, o_geI, o_ltS, o_geS, o_inS, o_notInS, o_isN, o_isNotN, o_isT, o_isNotT, o_isS, o_isNotS, o_int, o_intB, o_abs, o_str, o_lenT, o_lenL, o_lenF, o_lenS, o_ixT, o_ixL, o_ixF, ixW_0, ixW_1, ixW_2, o_isStr, o_tupL, o_tupT, o_listT, o_listL, o_listLocT, o_gcd, o_bits, o_finF, o_finT, sat_iVal, sat_iEnum, sat_iRange1, sat_iRange2, o_itT, o_itL, o_itF, o_itS, o_enT, o_rng, o_ixP hr0, o_set hr0, ixN1_0]
      have g : Gr [m] st (st.set m (.lst [.int (r0 - 1)])) := .set (by simp)
      exact ⟨hs.gr g (by simpa using nlm), ⟨_, List.getElem?_set_self hml⟩, g.mono (by simp)⟩
    rintro e s1 ⟨rfl, hs1, hm1, g1⟩
    refine seq_mid (fun e s => ∃ b : Bool, e = ([some (scr ns), some (PV.loc l), some (PV.lst rows), some (PV.loc op), some (PV.loc m), some wish, some (PV.bl b), none, none, none, none, none, none, none] : PEnv) ∧ SrcAt s l ∧ Room s m ∧ Gr [l, m] st s) ?_ ?_
    · simp only [sat_ok, sat_bind, sat_v, sat_c, sat_bin, sat_un, sat_test, sat_truth, sat_and, sat_or, sat_not, sat_yes, sat_andv, sat_notv, sat_chain, sat_nil, sat_cons, sat_args, sat_call, sat_callX, sat_meth, sat_one, sat_oNone, sat_oSome, sat_sl, sat_tup, sat_lst, sat_loc, ss_nil, ss_seq, ss_set, ss_expr, ss_ret, ss_retN, ss_if, ss_tg, ss_par, ss_sub, ss_for, sat_comp, setTg, setTgs, wipeP, sizeLine_eq, List.map_cons, List.map_nil, List.length_cons, List.length_nil, List.cons_append, List.nil_append, List.set_cons_zero, List.set_cons_succ, List.getElem?_cons_zero, List.getElem?_cons_succ, Nat.reduceAdd, Nat.reduceSub, Nat.reduceLeDiff, List.reduceReplicate, Option.some.injEq, exists_eq_left', true_and, and_true, Nat.zero_add]
      refine draw' hs1 (by decide) (by decide) fun r s _ _ hs2 g2 => ?_
      have hm2 := hm1.gr g2 (by simpa using Ne.symm nlm)
      have g12 := g1.trans (g2.mono (L' := [l, m]) (by simp))
      simp only [o_addI, o_addS, o_addT, o_addL, o_subI, o_mulI, o_fdivI, o_modI, o_powI, o_negI, o_eqI, o_neI, o_eqS, o_neS, o_ltI, o_gtI, o_leI, o_geI, o_ltS, o_geS, o_inS, o_notInS, o_isN, o_isNotN, o_isT, o_isNotT, o_isS, o_isNotS, o_int, o_intB, o_abs, o_str, o_lenT, o_lenL, o_lenF, o_lenS, o_ixT, o_ixL, o_ixF, ixW_0, ixW_1, ixW_2, o_isStr, o_tupL, o_tupT, o_listT, o_listL, o_listLocT, o_gcd, o_bits, o_finF, o_finT, sat_iVal, sat_iEnum, sat_iRange1, sat_iRange2, o_itT, o_itL, o_itF, o_itS, o_enT, o_rng]
      cases hd : decide (r = 0) with
      | true => simp only [(hwb _ _).1]; exact ⟨_, rfl, hs2, hm2, g12⟩
      | false => exact ⟨false, rfl, hs2, hm2, g12⟩
    rintro e s2 ⟨b, rfl, hs2, hm2, g2⟩
    obtain ⟨r2, hr2⟩ := hm2
    have ho2 := g2.at' ho (by simp; exact ⟨Ne.symm nlo, nom⟩)
    -- an outcome
    refine seq_mid (fun e s => e = ([some (scr ns), some (PV.loc l), some (PV.lst rows), some (PV.loc op), some (PV.loc m), some wish, some (PV.bl b), none, none, none, none, none, none, none] : PEnv) ∧ s = s2 ∧ rows ≠ []) ?_ ?_
    · have out : SatS (sRet (eBin pIx (eVar 3) (eCall 3 m_law_draw (aCons (eVar 0) (aCons (eVar 1) (aCons (eArgs (one pLen) (aCons (eVar 3) aNil)) aNil))))) ([some (scr ns), some (PV.loc l), some (PV.lst rows), some (PV.loc op), some (PV.loc m), some wish, some (PV.bl b), none, none, none, none, none, none, none] : PEnv) s2) (fun e s => e = ([some (scr ns), some (PV.loc l), some (PV.lst rows), some (PV.loc op), some (PV.loc m), some wish, some (PV.bl b), none, none, none, none, none, none, none] : PEnv) ∧ s = s2 ∧ rows ≠ []) Q := by
        simp only [sat_ok, sat_bind, sat_v, sat_c, sat_bin, sat_un, sat_test, sat_truth, sat_and, sat_or, sat_not, sat_yes, sat_andv, sat_notv, sat_chain, sat_nil, sat_cons, sat_args, sat_call, sat_callX, sat_meth, sat_one, sat_oNone, sat_oSome, sat_sl, sat_tup, sat_lst, sat_loc, ss_nil, ss_seq, ss_set, ss_expr, ss_ret, ss_retN, ss_if, ss_tg, ss_par, ss_sub, ss_for, sat_comp, setTg, setTgs, wipeP, sizeLine_eq, List.map_cons, List.map_nil, List.length_cons, List.length_nil, List.cons_append, List.nil_append, List.set_cons_zero, List.set_cons_succ, List.getElem?_cons_zero, List.getElem?_cons_succ, Nat.reduceAdd, Nat.reduceSub, Nat.reduceLeDiff, List.reduceReplicate, Option.some.injEq, exists_eq_left', true_and, and_true, Nat.zero_add, o_addI, o_addS, o_addT, o_addL, o_subI, o_mulI, o_fdivI, o_modI, o_powI, o_negI, o_eqI, o_neI, o_eqS, o_neS, o_ltI, o_gtI, o_leI, o_geI, o_ltS, o_geS, o_inS, o_notInS, o_isN, o_isNotN, o_isT, o_isNotT, o_isS, o_isNotS, o_int, o_intB, o_abs, o_str, o_lenT, o_lenL, o_lenF, o_lenS, o_ixT, o_ixL, o_ixF, ixW_0, ixW_1, ixW_2, o_isStr, o_tupL, o_tupT, o_listT, o_listL, o_listLocT, o_gcd, o_bits, o_finF, o_finT, sat_iVal, sat_iEnum, sat_iRange1, sat_iRange2, o_itT, o_itL, o_itF, o_itS, o_enT, o_rng, o_lenP ho2]
        refine draw' hs2 (by have := List.length_pos_iff.mpr hu0; rw [List.length_map]; omega) (log2_k (n := 1000) (by omega) (by rw [List.length_map]; omega)) fun r s c0 c1 hs3 g3 => ?_
        rw [o_ixP (g3.at' ho2 (by simpa using Ne.symm nlo))]
        refine draw_len c0 c1 fun y hy => ?_
        obtain ⟨u, mu, rfl⟩ := List.mem_map.mp hy
        exact k _ _ (.leaf (by have := hus u mu; omega)) hs3 (Room.gr ⟨r2, hr2⟩ g3 (by simpa using Ne.symm nlm)) (g2.trans (g3.mono (by simp)))
      rw [ss_if]
      simp only [sat_ok, sat_bind, sat_v, sat_c, sat_bin, sat_un, sat_test, sat_truth, sat_and, sat_or, sat_not, sat_yes, sat_andv, sat_notv, sat_chain, sat_nil, sat_cons, sat_args, sat_call, sat_callX, sat_meth, sat_one, sat_oNone, sat_oSome, sat_sl, sat_tup, sat_lst, sat_loc, ss_nil, ss_seq, ss_set, ss_expr, ss_ret, ss_retN, ss_if, ss_tg, ss_par, ss_sub, ss_for, sat_comp, setTg, setTgs, wipeP, sizeLine_eq, List.map_cons, List.map_nil, List.length_cons, List.length_nil, List.cons_append, List.nil_append, List.set_cons_zero, List.set_cons_succ, List.getElem?_cons_zero, List.getElem?_cons_succ, Nat.reduceAdd, Nat.reduceSub, Nat.reduceLeDiff, List.reduceReplicate, Option.some.injEq, exists_eq_left', true_and, and_true, Nat.zero_add, o_addI, o_addS, o_addT, o_addL, o_subI, o_mulI, o_fdivI, o_modI, o_powI, o_negI, o_eqI, o_neI, o_eqS, o_neS, o_ltI, o_gtI, o_leI, o_geI, o_ltS, o_geS, o_inS, o_notInS, o_isN, o_isNotN, o_isT, o_isNotT, o_isS, o_isNotS, o_int, o_intB, o_abs, o_str, o_lenT, o_lenL, o_lenF, o_lenS, o_ixT, o_ixL, o_ixF, ixW_0, ixW_1, ixW_2, o_isStr, o_tupL, o_tupT, o_listT, o_listL, o_listLocT, o_gcd, o_bits, o_finF, o_finT, sat_iVal, sat_iEnum, sat_iRange1, sat_iRange2, o_itT, o_itL, o_itF, o_itS, o_enT, o_rng, Int.reduceLE, Int.reduceLT, nabs, Nat.reducePow, Nat.reduceLT, Int.reduceToNat, Int.reducePow, true_and, and_true, or_true, true_or, and_self, if_true, if_false, Bool.false_eq_true, decide_true, decide_false, not_false_eq_true, List.length_map, o_ixP hr2, o_lenP ho2]
      simp only [sat_ok, sat_bind, sat_v, sat_c, sat_bin, sat_un, sat_test, sat_truth, sat_and, sat_or, sat_not, sat_yes, sat_andv, sat_notv, sat_chain, sat_nil, sat_cons, sat_args, sat_call, sat_callX, sat_meth, sat_one, sat_oNone, sat_oSome, sat_sl, sat_tup, sat_lst, sat_loc, ss_nil, ss_seq, ss_set, ss_expr, ss_ret, ss_retN, ss_if, ss_tg, ss_par, ss_sub, ss_for, sat_comp, setTg, setTgs, wipeP, sizeLine_eq, List.map_cons, List.map_nil, List.length_cons, List.length_nil, List.cons_append, List.nil_append, List.set_cons_zero, List.set_cons_succ, List.getElem?_cons_zero, List.getElem?_cons_succ, Nat.reduceAdd, Nat.reduceSub, Nat.reduceLeDiff, List.reduceReplicate, Option.some.injEq, exists_eq_left', true_and, and_true, Nat.zero_add, o_addI, o_addS, o_addT, o_addL, o_subI, o_mulI, o_fdivI, o_modI, o_powI, o_negI, o_eqI, o_neI, o_eqS, o_neS, o_ltI, o_gtI, o_leI, o_geI, o_ltS, o_geS, o_inS, o_notInS, o_isN, o_isNotN, o_isT, o_isNotT, o_isS, o_isNotS, o_int, o_intB, o_abs, o_str, o_lenT, o_lenL, o_lenF, o_lenS, o_ixT, o_ixL, o_ixF, ixW_0, ixW_1, ixW_2, o_isStr, o_tupL, o_tupT, o_listT, o_listL, o_listLocT, o_gcd, o_bits, o_finF, o_finT, sat_iVal, sat_iEnum, sat_iRange1, sat_iRange2, o_itT, o_itL, o_itF, o_itS, o_enT, o_rng, Int.reduceLE, Int.reduceLT, nabs, Nat.reducePow, Nat.reduceLT, Int.reduceToNat, Int.reducePow, true_and, and_true, or_true, true_or, and_self, if_true, if_false, Bool.false_eq_true, decide_true, decide_false, not_false_eq_true, List.length_map, o_lenP ho2] at out
      split
      · exact out
      · rename_i h0
        have hne : rows ≠ [] := by
          intro z
          subst z
          simp at h0
        split
        · exact out
        · split
          · exact out
          · first | exact hne | exact ⟨rfl, rfl, hne⟩
    rintro e s ⟨rfl, rfl, hne⟩
    have hlen : 0 < rows.length := List.length_pos_iff.mpr hne
    -- the row
    refine seq_mid (fun e t => ∃ row ∈ rows, e = ([some (scr ns), some (PV.loc l), some (PV.lst rows), some (PV.loc op), some (PV.loc m), some wish, some (PV.bl b), some row, none, none, none, none, none, none] : PEnv) ∧ SrcAt t l ∧ Gr [l] s t) ?_ ?_
    · simp only [sat_ok, sat_bind, sat_v, sat_c, sat_bin, sat_un, sat_test, sat_truth, sat_and, sat_or, sat_not, sat_yes, sat_andv, sat_notv, sat_chain, sat_nil, sat_cons, sat_args, sat_call, sat_callX, sat_meth, sat_one, sat_oNone, sat_oSome, sat_sl, sat_tup, sat_lst, sat_loc, ss_nil, ss_seq, ss_set, ss_expr, ss_ret, ss_retN, ss_if, ss_tg, ss_par, ss_sub, ss_for, sat_comp, setTg, setTgs, wipeP, sizeLine_eq, List.map_cons, List.map_nil, List.length_cons, List.length_nil, List.cons_append, List.nil_append, List.set_cons_zero, List.set_cons_succ, List.getElem?_cons_zero, List.getElem?_cons_succ, Nat.reduceAdd, Nat.reduceSub, Nat.reduceLeDiff, List.reduceReplicate, Option.some.injEq, exists_eq_left', true_and, and_true, Nat.zero_add, o_addI, o_addS, o_addT, o_addL, o_subI, o_mulI, o_fdivI, o_modI, o_powI, o_negI, o_eqI, o_neI, o_eqS, o_neS, o_ltI, o_gtI, o_leI, o_geI, o_ltS, o_geS, o_inS, o_notInS, o_isN, o_isNotN, o_isT, o_isNotT, o_isS, o_isNotS, o_int, o_intB, o_abs, o_str, o_lenT, o_lenL, o_lenF, o_lenS, o_ixT, o_ixL, o_ixF, ixW_0, ixW_1, ixW_2, o_isStr, o_tupL, o_tupT, o_listT, o_listL, o_listLocT, o_gcd, o_bits, o_finF, o_finT, sat_iVal, sat_iEnum, sat_iRange1, sat_iRange2, o_itT, o_itL, o_itF, o_itS, o_enT, o_rng]
      refine draw' hs2 (by omega) (log2_k (n := 100) (by omega) (by omega)) fun r t c0 c1 ht f => ?_
      simp only [o_addI, o_addS, o_addT, o_addL, o_subI, o_mulI, o_fdivI, o_modI, o_powI, o_negI, o_eqI, o_neI, o_eqS, o_neS, o_ltI, o_gtI, o_leI, o_geI, o_ltS, o_geS, o_inS, o_notInS, o_isN, o_isNotN, o_isT, o_isNotT, o_isS, o_isNotS, o_int, o_intB, o_abs, o_str, o_lenT, o_lenL, o_lenF, o_lenS, o_ixT, o_ixL, o_ixF, ixW_0, ixW_1, ixW_2, o_isStr, o_tupL, o_tupT, o_listT, o_listL, o_listLocT, o_gcd, o_bits, o_finF, o_finT, sat_iVal, sat_iEnum, sat_iRange1, sat_iRange2, o_itT, o_itL, o_itF, o_itS, o_enT, o_rng]
      refine draw_len c0 c1 fun y hy => ?_
      exact ⟨y, hy, rfl, ht, f⟩
    rintro e t1 ⟨row, hrow, rfl, ht1, f1⟩
    refine seq_mid (fun e t => ∃ row ∈ rows, e = ([some (scr ns), some (PV.loc l), some (PV.lst rows), some (PV.loc op), some (PV.loc m), some wish, some (PV.bl b), some row, none, none, none, none, none, none] : PEnv) ∧ t = t1) ?_ ?_
    · simp only [sat_ok, sat_bind, sat_v, sat_c, sat_bin, sat_un, sat_test, sat_truth, sat_and, sat_or, sat_not, sat_yes, sat_andv, sat_notv, sat_chain, sat_nil, sat_cons, sat_args, sat_call, sat_callX, sat_meth, sat_one, sat_oNone, sat_oSome, sat_sl, sat_tup, sat_lst, sat_loc, ss_nil, ss_seq, ss_set, ss_expr, ss_ret, ss_retN, ss_if, ss_tg, ss_par, ss_sub, ss_for, sat_comp, setTg, setTgs, wipeP, sizeLine_eq, List.map_cons, List.map_nil, List.length_cons, List.length_nil, List.cons_append, List.nil_append, List.set_cons_zero, List.set_cons_succ, List.getElem?_cons_zero, List.getElem?_cons_succ, Nat.reduceAdd, Nat.reduceSub, Nat.reduceLeDiff, List.reduceReplicate, Option.some.injEq, exists_eq_left', true_and, and_true, Nat.zero_add, (hwb _ _).2]
      split
      · rename_i h
        exact ⟨wish, hwn (by simpa using h), by first | rfl | exact ⟨rfl, rfl⟩⟩
      · exact ⟨row, hrow, by first | rfl | exact ⟨rfl, rfl⟩⟩
    rintro e t1 ⟨row, hrow, rfl, rfl⟩
    have hgr := hg row hrow
    -- the rest
    refine seq_mid (fun e t => ∃ rest : List PV, e = ([some (scr ns), some (PV.loc l), some (PV.lst rows), some (PV.loc op), some (PV.loc m), some wish, some (PV.bl b), some row, some (PV.lst rest), none, none, none, none, none] : PEnv) ∧ rest.length < rows.length ∧ (∀ x ∈ rest, GRow x) ∧ t = t1) ?_ ?_
    · simp only [sat_ok, sat_bind, sat_v, sat_c, sat_bin, sat_un, sat_test, sat_truth, sat_and, sat_or, sat_not, sat_yes, sat_andv, sat_notv, sat_chain, sat_nil, sat_cons, sat_args, sat_call, sat_callX, sat_meth, sat_one, sat_oNone, sat_oSome, sat_sl, sat_tup, sat_lst, sat_loc, ss_nil, ss_seq, ss_set, ss_expr, ss_ret, ss_retN, ss_if, ss_tg, ss_par, ss_sub, ss_for, sat_comp, setTg, setTgs, wipeP, sizeLine_eq, List.map_cons, List.map_nil, List.length_cons, List.length_nil, List.cons_append, List.nil_append, List.set_cons_zero, List.set_cons_succ, List.getElem?_cons_zero, List.getElem?_cons_succ, Nat.reduceAdd, Nat.reduceSub, Nat.reduceLeDiff, List.reduceReplicate, Option.some.injEq, exists_eq_left', true_and, and_true, Nat.zero_add, o_addI, o_addS, o_addT, o_addL, o_subI, o_mulI, o_fdivI, o_modI, o_powI, o_negI, o_eqI, o_neI, o_eqS, o_neS, o_ltI, o_gtI, o_leI, o_geI, o_ltS, o_geS, o_inS, o_notInS, o_isN, o_isNotN, o_isT, o_isNotT, o_isS, o_isNotS, o_int, o_intB, o_abs, o_str, o_lenT, o_lenL, o_lenF, o_lenS, o_ixT, o_ixL, o_ixF, ixW_0, ixW_1, ixW_2, o_isStr, o_tupL, o_tupT, o_listT, o_listL, o_listLocT, o_gcd, o_bits, o_finF, o_finT, sat_iVal, sat_iEnum, sat_iRange1, sat_iRange2, o_itT, o_itL, o_itF, o_itS, o_enT, o_rng]
      refine comp_pick (fun x => !decide (nameOf x = nameOf row)) (by simp) (by omega) (fun x hx => rest_test hgr rfl (by decide) (by simp) x (hg x hx)) ?_
      simp only [o_addI, o_addS, o_addT, o_addL, o_subI, o_mulI, o_fdivI, o_modI, o_powI, o_negI, o_eqI, o_neI, o_eqS, o_neS, o_ltI, o_gtI, o_leI, o_geI, o_ltS, o_geS, o_inS, o_notInS, o_isN, o_isNotN, o_isT, o_isNotT, o_isS, o_isNotS, o_int, o_intB, o_abs, o_str, o_lenT, o_lenL, o_lenF, o_lenS, o_ixT, o_ixL, o_ixF, ixW_0, ixW_1, ixW_2, o_isStr, o_tupL, o_tupT, o_listT, o_listL, o_listLocT, o_gcd, o_bits, o_finF, o_finT, sat_iVal, sat_iEnum, sat_iRange1, sat_iRange2, o_itT, o_itL, o_itF, o_itS, o_enT, o_rng]
      refine ⟨_, rfl, ?_, fun x hx => hg x (List.mem_filter.mp hx).1, trivial⟩
      have : ∃ x ∈ rows, ¬ (!decide (nameOf x = nameOf row)) = true := ⟨row, hrow, by simp⟩
      exact List.length_filter_lt_length_iff_exists.mpr this
    rintro e t ⟨rest, rfl, hlt, hgrest, rfl⟩
    -- style, shared
    refine seq_mid (fun e t2 => ∃ sty : Int, e = ([some (scr ns), some (PV.loc l), some (PV.lst rows), some (PV.loc op), some (PV.loc m), some wish, some (PV.bl b), some row, some (PV.lst rest), some (PV.int sty), none, none, none, none] : PEnv) ∧ SrcAt t2 l ∧ Gr [l] s t2) ?_ ?_
    · simp only [sat_ok, sat_bind, sat_v, sat_c, sat_bin, sat_un, sat_test, sat_truth, sat_and, sat_or, sat_not, sat_yes, sat_andv, sat_notv, sat_chain, sat_nil, sat_cons, sat_args, sat_call, sat_callX, sat_meth, sat_one, sat_oNone, sat_oSome, sat_sl, sat_tup, sat_lst, sat_loc, ss_nil, ss_seq, ss_set, ss_expr, ss_ret, ss_retN, ss_if, ss_tg, ss_par, ss_sub, ss_for, sat_comp, setTg, setTgs, wipeP, sizeLine_eq, List.map_cons, List.map_nil, List.length_cons, List.length_nil, List.cons_append, List.nil_append, List.set_cons_zero, List.set_cons_succ, List.getElem?_cons_zero, List.getElem?_cons_succ, Nat.reduceAdd, Nat.reduceSub, Nat.reduceLeDiff, List.reduceReplicate, Option.some.injEq, exists_eq_left', true_and, and_true, Nat.zero_add, o_addI, o_addS, o_addT, o_addL, o_subI, o_mulI, o_fdivI, o_modI, o_powI, o_negI, o_eqI, o_neI, o_eqS, o_neS, o_ltI, o_gtI, o_leI, o_geI, o_ltS, o_geS, o_inS, o_notInS, o_isN, o_isNotN, o_isT, o_isNotT, o_isS, o_isNotS, o_int, o_intB, o_abs, o_str, o_lenT, o_lenL, o_lenF, o_lenS, o_ixT, o_ixL, o_ixF, ixW_0, ixW_1, ixW_2, o_isStr, o_tupL, o_tupT, o_listT, o_listL, o_listLocT, o_gcd, o_bits, o_finF, o_finT, sat_iVal, sat_iEnum, sat_iRange1, sat_iRange2, o_itT, o_itL, o_itF, o_itS, o_enT, o_rng]
      refine draw' ht1 (by decide) (by decide) fun r t2 c0 c1 ht f => ?_
      exact ⟨r, rfl, ht, f1.trans f⟩
    rintro e t2 ⟨sty, rfl, ht2, f2⟩
    refine seq_mid (fun e t3 => e = ([some (scr ns), some (PV.loc l), some (PV.lst rows), some (PV.loc op), some (PV.loc m), some wish, some (PV.bl b), some row, some (PV.lst rest), some (PV.int sty), some PV.non, none, none, none] : PEnv) ∧ t3 = t2) ?_ ?_
    · simp only [sat_ok, sat_bind, sat_v, sat_c, sat_bin, sat_un, sat_test, sat_truth, sat_and, sat_or, sat_not, sat_yes, sat_andv, sat_notv, sat_chain, sat_nil, sat_cons, sat_args, sat_call, sat_callX, sat_meth, sat_one, sat_oNone, sat_oSome, sat_sl, sat_tup, sat_lst, sat_loc, ss_nil, ss_seq, ss_set, ss_expr, ss_ret, ss_retN, ss_if, ss_tg, ss_par, ss_sub, ss_for, sat_comp, setTg, setTgs, wipeP, sizeLine_eq, List.map_cons, List.map_nil, List.length_cons, List.length_nil, List.cons_append, List.nil_append, List.set_cons_zero, List.set_cons_succ, List.getElem?_cons_zero, List.getElem?_cons_succ, Nat.reduceAdd, Nat.reduceSub, Nat.reduceLeDiff, List.reduceReplicate, Option.some.injEq, exists_eq_left', true_and, and_true, Nat.zero_add, o_addI, o_addS, o_addT, o_addL, o_subI, o_mulI, o_fdivI, o_modI, o_powI, o_negI, o_eqI, o_neI, o_eqS, o_neS, o_ltI, o_gtI, o_leI, o_geI, o_ltS, o_geS, o_inS, o_notInS, o_isN, o_isNotN, o_isT, o_isNotT, o_isS, o_isNotS, o_int, o_intB, o_abs, o_str, o_lenT, o_lenL, o_lenF, o_lenS, o_ixT, o_ixL, o_ixF, ixW_0, ixW_1, ixW_2, o_isStr, o_tupL, o_tupT, o_listT, o_listL, o_listLocT, o_gcd, o_bits, o_finF, o_finT, sat_iVal, sat_iEnum, sat_iRange1, sat_iRange2, o_itT, o_itL, o_itF, o_itS, o_enT, o_rng]
    rintro e t2 ⟨rfl, rfl⟩
    refine seq_mid (fun e t3 => ∃ sh : PV, e = ([some (scr ns), some (PV.loc l), some (PV.lst rows), some (PV.loc op), some (PV.loc m), some wish, some (PV.bl b), some row, some (PV.lst rest), some (PV.int sty), some sh, none, none, none] : PEnv) ∧ (sh = .non ∨ sh ∈ rest) ∧ SrcAt t3 l ∧ Gr [l] s t3) ?_ ?_
    · simp only [sat_ok, sat_bind, sat_v, sat_c, sat_bin, sat_un, sat_test, sat_truth, sat_and, sat_or, sat_not, sat_yes, sat_andv, sat_notv, sat_chain, sat_nil, sat_cons, sat_args, sat_call, sat_callX, sat_meth, sat_one, sat_oNone, sat_oSome, sat_sl, sat_tup, sat_lst, sat_loc, ss_nil, ss_seq, ss_set, ss_expr, ss_ret, ss_retN, ss_if, ss_tg, ss_par, ss_sub, ss_for, sat_comp, setTg, setTgs, wipeP, sizeLine_eq, List.map_cons, List.map_nil, List.length_cons, List.length_nil, List.cons_append, List.nil_append, List.set_cons_zero, List.set_cons_succ, List.getElem?_cons_zero, List.getElem?_cons_succ, Nat.reduceAdd, Nat.reduceSub, Nat.reduceLeDiff, List.reduceReplicate, Option.some.injEq, exists_eq_left', true_and, and_true, Nat.zero_add, o_addI, o_addS, o_addT, o_addL, o_subI, o_mulI, o_fdivI, o_modI, o_powI, o_negI, o_eqI, o_neI, o_eqS, o_neS, o_ltI, o_gtI, o_leI, o_geI, o_ltS, o_geS, o_inS, o_notInS, o_isN, o_isNotN, o_isT, o_isNotT, o_isS, o_isNotS, o_int, o_intB, o_abs, o_str, o_lenT, o_lenL, o_lenF, o_lenS, o_ixT, o_ixL, o_ixF, ixW_0, ixW_1, ixW_2, o_isStr, o_tupL, o_tupT, o_listT, o_listL, o_listLocT, o_gcd, o_bits, o_finF, o_finT, sat_iVal, sat_iEnum, sat_iRange1, sat_iRange2, o_itT, o_itL, o_itF, o_itS, o_enT, o_rng]
      split
      · split
        · rename_i h
          have h : 0 < (rest.length : Int) := by simpa using h
          refine draw' ht2 h (log2_k (n := 100) (by omega) (by omega)) fun r t3 c0 c1 ht f => ?_
          simp only [o_addI, o_addS, o_addT, o_addL, o_subI, o_mulI, o_fdivI, o_modI, o_powI, o_negI, o_eqI, o_neI, o_eqS, o_neS, o_ltI, o_gtI, o_leI, o_geI, o_ltS, o_geS, o_inS, o_notInS, o_isN, o_isNotN, o_isT, o_isNotT, o_isS, o_isNotS, o_int, o_intB, o_abs, o_str, o_lenT, o_lenL, o_lenF, o_lenS, o_ixT, o_ixL, o_ixF, ixW_0, ixW_1, ixW_2, o_isStr, o_tupL, o_tupT, o_listT, o_listL, o_listLocT, o_gcd, o_bits, o_finF, o_finT, sat_iVal, sat_iEnum, sat_iRange1, sat_iRange2, o_itT, o_itL, o_itF, o_itS, o_enT, o_rng]
          refine draw_len c0 c1 fun y hy => ?_
          exact ⟨y, rfl, .inr hy, ht, f2.trans f⟩
        · exact ⟨.non, rfl, .inl rfl, ht2, f2⟩
      · split
        · rename_i h
          cases h
        · exact ⟨.non, rfl, .inl rfl, ht2, f2⟩
    rintro e t3 ⟨sh, rfl, hsh, ht3, f3⟩
    -- the children
    have hm3 : Room t3 m := Room.gr ⟨r2, hr2⟩ f3 (by simpa using Ne.symm nlm)
    have ho3 := f3.at' ho2 (by simpa using Ne.symm nlo)
    refine seq_mid (fun e t4 => e = ([some (scr ns), some (PV.loc l), some (PV.lst rows), some (PV.loc op), some (PV.loc m), some wish, some (PV.bl b), some row, some (PV.lst rest), some (PV.int sty), some sh, some (PV.loc t3.length), none, none] : PEnv) ∧ t4 = t3 ++ [.lst []]) ?_ ?_
    · simp only [sat_ok, sat_bind, sat_v, sat_c, sat_bin, sat_un, sat_test, sat_truth, sat_and, sat_or, sat_not, sat_yes, sat_andv, sat_notv, sat_chain, sat_nil, sat_cons, sat_args, sat_call, sat_callX, sat_meth, sat_one, sat_oNone, sat_oSome, sat_sl, sat_tup, sat_lst, sat_loc, ss_nil, ss_seq, ss_set, ss_expr, ss_ret, ss_retN, ss_if, ss_tg, ss_par, ss_sub, ss_for, sat_comp, setTg, setTgs, wipeP, sizeLine_eq, List.map_cons, List.map_nil, List.length_cons, List.length_nil, List.cons_append, List.nil_append, List.set_cons_zero, List.set_cons_succ, List.getElem?_cons_zero, List.getElem?_cons_succ, Nat.reduceAdd, Nat.reduceSub, Nat.reduceLeDiff, List.reduceReplicate, Option.some.injEq, exists_eq_left', true_and, and_true, Nat.zero_add, o_addI, o_addS, o_addT, o_addL, o_subI, o_mulI, o_fdivI, o_modI, o_powI, o_negI, o_eqI, o_neI, o_eqS, o_neS, o_ltI, o_gtI, o_leI, o_geI, o_ltS, o_geS, o_inS, o_notInS, o_isN, o_isNotN, o_isT, o_isNotT, o_isS, o_isNotS, o_int, o_intB, o_abs, o_str, o_lenT, o_lenL, o_lenF, o_lenS, o_ixT, o_ixL, o_ixF, ixW_0, ixW_1, ixW_2, o_isStr, o_tupL, o_tupT, o_listT, o_listL, o_listLocT, o_gcd, o_bits, o_finF, o_finT, sat_iVal, sat_iEnum, sat_iRange1, sat_iRange2, o_itT, o_itL, o_itF, o_itS, o_enT, o_rng]
    rintro e t4 ⟨rfl, rfl⟩
    obtain ⟨ws, hw1, hw2, hix⟩ := row_ix2 hgr
    have hl3 := ht3.lt
    have hm3' : m < t3.length := by obtain ⟨r, e⟩ := hm3; exact lt_of_some e
    have hop3 := lt_of_some ho3
    have g4 : Gr [] t3 (t3 ++ [.lst []]) := .app
    have hs4 := ht3.gr g4 (by simp)
    have hm4 := hm3.gr g4 (by simp)
    have ho4 := g4.at' ho3 (by simp)
    have hc4 : (t3 ++ [PO.lst []])[t3.length]? = some (.lst []) := by simp
    generalize hch : t3.length = ch at *
    generalize t3 ++ [PO.lst []] = t4 at *
    refine seq_mid (fun e t => ∃ (kids : List PV) (mv : Option PV), e = ([some (scr ns), some (PV.loc l), some (PV.lst rows), some (PV.loc op), some (PV.loc m), some wish, some (PV.bl b), some row, some (PV.lst rest), some (PV.int sty), some sh, some (PV.loc ch), mv, none] : PEnv) ∧ t[ch]? = some (.lst kids) ∧ kids.length = ws.length ∧ (∀ x ∈ kids, TreeOk 64 rest.length x) ∧ SrcAt t l ∧ Room t m ∧ Gr [l, m, ch] t4 t) ?_ ?_
    · rw [ss_for, sat_iRange1, sat_args, sat_cons, sat_bin, sat_var rfl, sat_c, hix, sat_nil, sat_one, o_lenT, o_rng]
      refine ⟨by rw [List.length_map]; omega, ?_⟩
      refine for_invN (k := 0) (fun i e t => ∃ (kids : List PV) (mv : Option PV), e = ([some (scr ns), some (PV.loc l), some (PV.lst rows), some (PV.loc op), some (PV.loc m), some wish, some (PV.bl b), some row, some (PV.lst rest), some (PV.int sty), some sh, some (PV.loc ch), mv, none] : PEnv) ∧ t[ch]? = some (.lst kids) ∧ kids.length = i ∧ (∀ x ∈ kids, TreeOk 64 rest.length x) ∧ SrcAt t l ∧ Room t m ∧ Gr [l, m, ch] t4 t)
        ⟨[], _, rfl, hc4, rfl, nofun, hs4, hm4, .refl⟩ ?_ ?_
      · rintro i v e t hv ⟨kids, mv, rfl, hk, hkl, hkt, hst, hmt, g5⟩
        obtain ⟨hi, rfl⟩ := rngs_get hv
        rw [List.length_map] at hi
        have hi : i < ws.length := by simpa using hi
        refine ⟨_, rfl, ?_⟩
        have hot := g5.at' ho4 (by simp; exact ⟨Ne.symm nlo, nom, by omega⟩)
        -- the child drawn anew
        have anew : ∀ t', SrcAt t' l → Room t' m → Gr [l, m, ch] t4 t' → t'[ch]? = some (.lst kids) → SatS (sExpr (eMeth isListP pAppend (eVar 11) (aCons (eCall 6 (fuelF 14 f_law_tree n) (aCons (eVar 0) (aCons (eVar 1) (aCons (eVar 8) (aCons (eVar 3) (aCons (eVar 4) (aCons (eVar 10) aNil))))))) aNil)) ([some (scr ns), some (PV.loc l), some (PV.lst rows), some (PV.loc op), some (PV.loc m), some wish, some (PV.bl b), some row, some (PV.lst rest), some (PV.int sty), some sh, some (PV.loc ch), some (PV.int (0 + (i : Int))), none] : PEnv) t') (fun e t => ∃ (kids : List PV) (mv : Option PV), e = ([some (scr ns), some (PV.loc l), some (PV.lst rows), some (PV.loc op), some (PV.loc m), some wish, some (PV.bl b), some row, some (PV.lst rest), some (PV.int sty), some sh, some (PV.loc ch), mv, none] : PEnv) ∧ t[ch]? = some (.lst kids) ∧ kids.length = 0 + i + 1 ∧ (∀ x ∈ kids, TreeOk 64 rest.length x) ∧ SrcAt t l ∧ Room t m ∧ Gr [l, m, ch] t4 t) Q := by
          intro t' a1 a2 a3 a4
          simp only [sat_ok, sat_bind, sat_v, sat_c, sat_bin, sat_un, sat_test, sat_truth, sat_and, sat_or, sat_not, sat_yes, sat_andv, sat_notv, sat_chain, sat_nil, sat_cons, sat_args, sat_call, sat_callX, sat_meth, sat_one, sat_oNone, sat_oSome, sat_sl, sat_tup, sat_lst, sat_loc, ss_nil, ss_seq, ss_set, ss_expr, ss_ret, ss_retN, ss_if, ss_tg, ss_par, ss_sub, ss_for, sat_comp, setTg, setTgs, wipeP, sizeLine_eq, List.map_cons, List.map_nil, List.length_cons, List.length_nil, List.cons_append, List.nil_append, List.set_cons_zero, List.set_cons_succ, List.getElem?_cons_zero, List.getElem?_cons_succ, Nat.reduceAdd, Nat.reduceSub, Nat.reduceLeDiff, List.reduceReplicate, Option.some.injEq, exists_eq_left', true_and, and_true, Nat.zero_add, o_addI, o_addS, o_addT, o_addL, o_subI, o_mulI, o_fdivI, o_modI, o_powI, o_negI, o_eqI, o_neI, o_eqS, o_neS, o_ltI, o_gtI, o_leI, o_geI, o_ltS, o_geS, o_inS, o_notInS, o_isN, o_isNotN, o_isT, o_isNotT, o_isS, o_isNotS, o_int, o_intB, o_abs, o_str, o_lenT, o_lenL, o_lenF, o_lenS, o_ixT, o_ixL, o_ixF, ixW_0, ixW_1, ixW_2, o_isStr, o_tupL, o_tupT, o_listT, o_listL, o_listLocT, o_gcd, o_bits, o_finF, o_finT, sat_iVal, sat_iEnum, sat_iRange1, sat_iRange2, o_itT, o_itL, o_itF, o_itS, o_enT, o_rng]
          refine ⟨o_isL a4, ?_⟩
          refine tree_ok hu0 hul hus nlo nlm nom n rest sh t' _ (by omega) (by omega) hgrest hsh a1 a2 (a3.at' ho4 (by simp; exact ⟨Ne.symm nlo, nom, by omega⟩)) fun v t5 b1 b2 b3 b4 => ?_
          have hk5 := b4.at' a4 (by simp; omega)
          rw [o_app hk5]
          refine ⟨by rw [sizeLine_eq]; omega, ?_⟩
          have g6 : Gr [ch] t5 (t5.set ch (.lst (kids ++ [v]))) := .set (by simp)
          refine ⟨kids ++ [v], _, rfl, List.getElem?_set_self (lt_of_some hk5), by simp; omega, fun x hx => ?_, b2.gr g6 (by simp; omega), b3.gr g6 (by simp; omega), a3.trans ((b4.mono (by simp)).trans (g6.mono (by simp)))⟩
          rcases List.mem_append.mp hx with q | q
          · exact hkt x q
          · rw [List.mem_singleton.mp q]; exact b1
        have nch : ch ∉ [l] := by simp; omega
        simp only [sat_ok, sat_bind, sat_v, sat_c, sat_bin, sat_un, sat_test, sat_truth, sat_and, sat_or, sat_not, sat_yes, sat_andv, sat_notv, sat_chain, sat_nil, sat_cons, sat_args, sat_call, sat_callX, sat_meth, sat_one, sat_oNone, sat_oSome, sat_sl, sat_tup, sat_lst, sat_loc, ss_nil, ss_seq, ss_set, ss_expr, ss_ret, ss_retN, ss_if, ss_tg, ss_par, ss_sub, ss_for, sat_comp, setTg, setTgs, wipeP, sizeLine_eq, List.map_cons, List.map_nil, List.length_cons, List.length_nil, List.cons_append, List.nil_append, List.set_cons_zero, List.set_cons_succ, List.getElem?_cons_zero, List.getElem?_cons_succ, Nat.reduceAdd, Nat.reduceSub, Nat.reduceLeDiff, List.reduceReplicate, Option.some.injEq, exists_eq_left', true_and, and_true, Nat.zero_add, o_addI, o_addS, o_addT, o_addL, o_subI, o_mulI, o_fdivI, o_modI, o_powI, o_negI, o_eqI, o_neI, o_eqS, o_neS, o_ltI, o_gtI, o_leI, o_geI, o_ltS, o_geS, o_inS, o_notInS, o_isN, o_isNotN, o_isT, o_isNotT, o_isS, o_isNotS, o_int, o_intB, o_abs, o_str, o_lenT, o_lenL, o_lenF, o_lenS, o_ixT, o_ixL, o_ixF, ixW_0, ixW_1, ixW_2, o_isStr, o_tupL, o_tupT, o_listT, o_listL, o_listLocT, o_gcd, o_bits, o_finF, o_finT, sat_iVal, sat_iEnum, sat_iRange1, sat_iRange2, o_itT, o_itL, o_itF, o_itS, o_enT, o_rng] at anew ⊢
        -- the child before, once more
        have again : 0 < i → ∀ t', SrcAt t' l → Room t' m → Gr [l, m, ch] t4 t' → t'[ch]? = some (.lst kids) → isListP (.loc ch) t' = true ∧ Sat (pIx (.loc ch) (.int (0 + (i : Int) - 1)) t') fun v s => Sat (pAppend (.loc ch) [v] s) fun _ t => ∃ (kids : List PV) (mv : Option PV), ([some (scr ns), some (PV.loc l), some (PV.lst rows), some (PV.loc op), some (PV.loc m), some wish, some (PV.bl b), some row, some (PV.lst rest), some (PV.int sty), some sh, some (PV.loc ch), some (PV.int (0 + (i : Int))), none] : PEnv) = ([some (scr ns), some (PV.loc l), some (PV.lst rows), some (PV.loc op), some (PV.loc m), some wish, some (PV.bl b), some row, some (PV.lst rest), some (PV.int sty), some sh, some (PV.loc ch), mv, none] : PEnv) ∧ t[ch]? = some (.lst kids) ∧ kids.length = i + 1 ∧ (∀ x ∈ kids, TreeOk 64 rest.length x) ∧ SrcAt t l ∧ Room t m ∧ Gr [l, m, ch] t4 t := by
          intro h0 t' a1 a2 a3 a4
          refine ⟨o_isL a4, ?_⟩
          rw [o_ixP a4]
          refine ixW_in (by omega) (by omega) fun y hy => ?_
          rw [o_app a4]
          refine ⟨by rw [sizeLine_eq]; omega, ?_⟩
          have g6 : Gr [ch] t' (t'.set ch (.lst (kids ++ [y]))) := .set (by simp)
          refine ⟨kids ++ [y], _, rfl, List.getElem?_set_self (lt_of_some a4), by simp; omega, fun x hx => ?_, a1.gr g6 (by simp; omega), a2.gr g6 (by simp; omega), a3.trans (g6.mono (by simp))⟩
          rcases List.mem_append.mp hx with q | q
          · exact hkt x q
          · rw [List.mem_singleton.mp q]; exact hkt y (List.mem_of_getElem? hy)
        by_cases h0 : 0 < i
        · have e0 : (0 : Int) < 0 + (i : Int) := by omega
          simp only [decide_eq_true e0, (hwb _ _).1, sat_truth, if_true]
          by_cases hb' : wb = true
          · simp only [hb', if_true]
            by_cases h4 : sty = 4
            · subst h4
              simp only [decide_true, if_true]
              exact again h0 _ hst hmt g5 hk
            · simp only [decide_eq_false h4, Bool.false_eq_true, if_false]
              by_cases h3 : sty = 3
              · subst h3
                simp only [decide_true, if_true]
                refine draw' hst (by decide) (by decide) fun r t' _ _ a1 f1 => ?_
                have a2 := hmt.gr f1 (by simpa using Ne.symm nlm)
                have a3 := g5.trans (f1.mono (L' := [l, m, ch]) (by simp))
                have a4 := f1.at' hk nch
                simp only [sat_ok, sat_bind, sat_v, sat_c, sat_bin, sat_un, sat_test, sat_truth, sat_and, sat_or, sat_not, sat_yes, sat_andv, sat_notv, sat_chain, sat_nil, sat_cons, sat_args, sat_call, sat_callX, sat_meth, sat_one, sat_oNone, sat_oSome, sat_sl, sat_tup, sat_lst, sat_loc, ss_nil, ss_seq, ss_set, ss_expr, ss_ret, ss_retN, ss_if, ss_tg, ss_par, ss_sub, ss_for, sat_comp, setTg, setTgs, wipeP, sizeLine_eq, List.map_cons, List.map_nil, List.length_cons, List.length_nil, List.cons_append, List.nil_append, List.set_cons_zero, List.set_cons_succ, List.getElem?_cons_zero, List.getElem?_cons_succ, Nat.reduceAdd, Nat.reduceSub, Nat.reduceLeDiff, List.reduceReplicate, Option.some.injEq, exists_eq_left', true_and, and_true, Nat.zero_add, o_addI, o_addS, o_addT, o_addL, o_subI, o_mulI, o_fdivI, o_modI, o_powI, o_negI, o_eqI, o_neI, o_eqS, o_neS, o_ltI, o_gtI, o_leI, o_geI, o_ltS, o_geS, o_inS, o_notInS, o_isN, o_isNotN, o_isT, o_isNotT, o_isS, o_isNotS, o_int, o_intB, o_abs, o_str, o_lenT, o_lenL, o_lenF, o_lenS, o_ixT, o_ixL, o_ixF, ixW_0, ixW_1, ixW_2, o_isStr, o_tupL, o_tupT, o_listT, o_listL, o_listLocT, o_gcd, o_bits, o_finF, o_finT, sat_iVal, sat_iEnum, sat_iRange1, sat_iRange2, o_itT, o_itL, o_itF, o_itS, o_enT, o_rng]
                split
                · exact again h0 _ a1 a2 a3 a4
                · exact anew _ a1 a2 a3 a4
              · simp only [decide_eq_false h3, Bool.false_eq_true, if_false]
                exact anew _ hst hmt g5 hk
          · simp only [hb', Bool.false_eq_true, if_false]
            exact anew _ hst hmt g5 hk
        · have e0 : ¬ (0 : Int) < 0 + (i : Int) := by omega
          simp only [decide_eq_false e0, Bool.false_eq_true, if_false]
          exact anew _ hst hmt g5 hk
      · rintro e t ⟨kids, mv, rfl, hk, hkl, hkt, hst, hmt, g5⟩
        exact ⟨kids, mv, rfl, hk, by rw [hkl, rngs_len]; simp, hkt, hst, hmt, g5⟩
    rintro e t ⟨kids, mv, rfl, hk, hkl, hkt, hst, hmt, g5⟩
    simp only [sat_ok, sat_bind, sat_v, sat_c, sat_bin, sat_un, sat_test, sat_truth, sat_and, sat_or, sat_not, sat_yes, sat_andv, sat_notv, sat_chain, sat_nil, sat_cons, sat_args, sat_call, sat_callX, sat_meth, sat_one, sat_oNone, sat_oSome, sat_sl, sat_tup, sat_lst, sat_loc, ss_nil, ss_seq, ss_set, ss_expr, ss_ret, ss_retN, ss_if, ss_tg, ss_par, ss_sub, ss_for, sat_comp, setTg, setTgs, wipeP, sizeLine_eq, List.map_cons, List.map_nil, List.length_cons, List.length_nil, List.cons_append, List.nil_append, List.set_cons_zero, List.set_cons_succ, List.getElem?_cons_zero, List.getElem?_cons_succ, Nat.reduceAdd, Nat.reduceSub, Nat.reduceLeDiff, List.reduceReplicate, Option.some.injEq, exists_eq_left', true_and, and_true, Nat.zero_add, row_ix0 hgr, o_tupP hk]
    refine k _ t ?_ hst hmt ?_
    · exact (TreeOk.node (by have := (hgr.name).choose_spec.choose_spec.2.1; omega) (by omega) hkt).mono (Nat.le_refl _) (by omega)
    · have a1 : Gr [l, m] t3 t := ((g4.mono (by simp)).trans g5).cut (by
        intro j hj hlt'
        simp only [List.mem_cons, List.not_mem_nil, or_false] at hj ⊢
        omega)
      exact g2.trans ((f3.mono (by simp)).trans a1)
end PL
/-! PL, part u: a drawn game; spoiling. -/
namespace PL
open PySem PySem.Spec PyProof.Rows L2
theorem game_ok {ns : List Int} {l : Nat} {st : Store} {Q : PV → Store → Prop} (hs : SrcAt st l)
    (k : ∀ rows tree s, rows.length ≤ 10 → (∀ r ∈ rows, GRow r) → TreeOk 64 10 tree → SrcAt s l → Gr [l] st s → Q (.tup [.tup rows, tree]) s) : Sat (m_law_game [scr ns, .loc l, .int 5, .int 32, .int 40] st) Q := by
  refine sat_body ?_
  unfold f_law_game
  simp only [List.map_cons, List.map_nil, List.length_cons, List.length_nil, Nat.reduceAdd, Nat.reduceSub, List.reduceReplicate, List.cons_append, List.nil_append]
  refine seq_mid (fun e s => ∃ rows : List PV, e = ([some (scr ns), some (PV.loc l), some (PV.int 5), some (PV.int 32), some (PV.int 40), some (PV.tup rows), none, none, none, none] : PEnv) ∧ rows.length ≤ 10 ∧ (∀ r ∈ rows, GRow r) ∧ SrcAt s l ∧ Gr [l] st s) ?_ ?_
  · simp only [sat_ok, sat_bind, sat_v, sat_c, sat_bin, sat_un, sat_test, sat_truth, sat_and, sat_or, sat_not, sat_yes, sat_andv, sat_notv, sat_chain, sat_nil, sat_cons, sat_args, sat_call, sat_callX, sat_meth, sat_one, sat_oNone, sat_oSome, sat_sl, sat_tup, sat_lst, sat_loc, ss_nil, ss_seq, ss_set, ss_expr, ss_ret, ss_retN, ss_if, ss_tg, ss_par, ss_sub, ss_for, sat_comp, setTg, setTgs, wipeP, sizeLine_eq, List.map_cons, List.map_nil, List.length_cons, List.length_nil, List.cons_append, List.nil_append, List.set_cons_zero, List.set_cons_succ, List.getElem?_cons_zero, List.getElem?_cons_succ, Nat.reduceAdd, Nat.reduceSub, Nat.reduceLeDiff, List.reduceReplicate, Option.some.injEq, exists_eq_left', true_and, and_true, Nat.zero_add]
    exact sets_ok hs fun rows s h1 h2 h3 h4 => ⟨rows, rfl, h1, h2, h3, h4⟩
  rintro e s1 ⟨rows, rfl, hrl, hg, hs1, g1⟩
  have hl1 := hs1.lt
  refine seq_mid (fun e s => e = ([some (scr ns), some (PV.loc l), some (PV.int 5), some (PV.int 32), some (PV.int 40), some (PV.tup rows), some (PV.loc s1.length), none, none, none] : PEnv) ∧ s = s1 ++ [.lst []]) ?_ ?_
  · simp only [sat_ok, sat_bind, sat_v, sat_c, sat_bin, sat_un, sat_test, sat_truth, sat_and, sat_or, sat_not, sat_yes, sat_andv, sat_notv, sat_chain, sat_nil, sat_cons, sat_args, sat_call, sat_callX, sat_meth, sat_one, sat_oNone, sat_oSome, sat_sl, sat_tup, sat_lst, sat_loc, ss_nil, ss_seq, ss_set, ss_expr, ss_ret, ss_retN, ss_if, ss_tg, ss_par, ss_sub, ss_for, sat_comp, setTg, setTgs, wipeP, sizeLine_eq, List.map_cons, List.map_nil, List.length_cons, List.length_nil, List.cons_append, List.nil_append, List.set_cons_zero, List.set_cons_succ, List.getElem?_cons_zero, List.getElem?_cons_succ, Nat.reduceAdd, Nat.reduceSub, Nat.reduceLeDiff, List.reduceReplicate, Option.some.injEq, exists_eq_left', true_and, and_true, Nat.zero_add]
  rintro e s2 ⟨rfl, rfl⟩
  have g2 : Gr [l] s1 (s1 ++ [PO.lst []]) := .app
  have hs2 := hs1.gr (L := []) .app (by simp) (s := s1 ++ [PO.lst []])
  have ho2 : (s1 ++ [PO.lst []])[s1.length]? = some (.lst []) := by simp
  generalize hop : s1.length = op at *
  generalize s1 ++ [PO.lst []] = s2 at *
  have nol : op ∉ [l] := by simp; omega
  -- the outcomes
  refine seq_mid (fun e s => ∃ (us : List Str) (kk : Option PV), e = ([some (scr ns), some (PV.loc l), some (PV.int 5), some (PV.int 32), some (PV.int 40), some (PV.tup rows), some (PV.loc op), kk, none, none] : PEnv) ∧ us ≠ [] ∧ us.length ≤ 10 ∧ (∀ u ∈ us, u.length ≤ 20) ∧ s[op]? = some (.lst (us.map .str)) ∧ SrcAt s l ∧ Gr [l, op] s2 s) ?_ ?_
  · simp only [sat_ok, sat_bind, sat_v, sat_c, sat_bin, sat_un, sat_test, sat_truth, sat_and, sat_or, sat_not, sat_yes, sat_andv, sat_notv, sat_chain, sat_nil, sat_cons, sat_args, sat_call, sat_callX, sat_meth, sat_one, sat_oNone, sat_oSome, sat_sl, sat_tup, sat_lst, sat_loc, ss_nil, ss_seq, ss_set, ss_expr, ss_ret, ss_retN, ss_if, ss_tg, ss_par, ss_sub, ss_for, sat_comp, setTg, setTgs, wipeP, sizeLine_eq, List.map_cons, List.map_nil, List.length_cons, List.length_nil, List.cons_append, List.nil_append, List.set_cons_zero, List.set_cons_succ, List.getElem?_cons_zero, List.getElem?_cons_succ, Nat.reduceAdd, Nat.reduceSub, Nat.reduceLeDiff, List.reduceReplicate, Option.some.injEq, exists_eq_left', true_and, and_true, Nat.zero_add, o_addI, o_addS, o_addT, o_addL, o_subI, o_mulI, o_fdivI, o_modI, o_powI, o_negI, o_eqI, o_neI, o_eqS, o_neS, o_ltI, o_gtI, o_leI, o_geI, o_ltS, o_geS, o_inS, o_notInS, o_isN, o_isNotN, o_isT, o_isNotT, o_isS, o_isNotS, o_int, o_intB, o_abs, o_str, o_lenT, o_lenL, o_lenF, o_lenS, o_ixT, o_ixL, o_ixF, ixW_0, ixW_1, ixW_2, o_isStr, o_tupL, o_tupT, o_listT, o_listL, o_listLocT, o_gcd, o_bits, o_finF, o_finT, sat_iVal, sat_iEnum, sat_iRange1, sat_iRange2, o_itT, o_itL, o_itF, o_itS, o_enT, o_rng]
    refine draw' hs2 (by decide) (by decide) fun r s3 c0 c1 hs3 g3 => ?_
    simp only [o_addI, o_addS, o_addT, o_addL, o_subI, o_mulI, o_fdivI, o_modI, o_powI, o_negI, o_eqI, o_neI, o_eqS, o_neS, o_ltI, o_gtI, o_leI, o_geI, o_ltS, o_geS, o_inS, o_notInS, o_isN, o_isNotN, o_isT, o_isNotT, o_isS, o_isNotS, o_int, o_intB, o_abs, o_str, o_lenT, o_lenL, o_lenF, o_lenS, o_ixT, o_ixL, o_ixF, ixW_0, ixW_1, ixW_2, o_isStr, o_tupL, o_tupT, o_listT, o_listL, o_listLocT, o_gcd, o_bits, o_finF, o_finT, sat_iVal, sat_iEnum, sat_iRange1, sat_iRange2, o_itT, o_itL, o_itF, o_itS, o_enT, o_rng]
    refine draw_len c0 (by show r < 10; omega) fun y hy => ?_
    obtain ⟨cnt, rfl, hc⟩ : ∃ c : Int, y = .int c ∧ 1 ≤ c ∧ c ≤ 6 := by
      simp only [List.mem_cons, List.not_mem_nil, or_false] at hy
      rcases hy with rfl | rfl | rfl | rfl | rfl | rfl | rfl | rfl | rfl | rfl <;> exact ⟨_, rfl, by decide, by decide⟩
    simp only [o_addI, o_addS, o_addT, o_addL, o_subI, o_mulI, o_fdivI, o_modI, o_powI, o_negI, o_eqI, o_neI, o_eqS, o_neS, o_ltI, o_gtI, o_leI, o_geI, o_ltS, o_geS, o_inS, o_notInS, o_isN, o_isNotN, o_isT, o_isNotT, o_isS, o_isNotS, o_int, o_intB, o_abs, o_str, o_lenT, o_lenL, o_lenF, o_lenS, o_ixT, o_ixL, o_ixF, ixW_0, ixW_1, ixW_2, o_isStr, o_tupL, o_tupT, o_listT, o_listL, o_listLocT, o_gcd, o_bits, o_finF, o_finT, sat_iVal, sat_iEnum, sat_iRange1, sat_iRange2, o_itT, o_itL, o_itF, o_itS, o_enT, o_rng]
    refine ⟨⟨by omega, by omega⟩, ?_⟩
    have ho3 := g3.at' ho2 nol
    refine for_invN (k := 0) (fun i e s => ∃ (us : List Str) (kk : Option PV), e = ([some (scr ns), some (PV.loc l), some (PV.int 5), some (PV.int 32), some (PV.int 40), some (PV.tup rows), some (PV.loc op), kk, none, none] : PEnv) ∧ us.length = i ∧ (∀ u ∈ us, u.length ≤ 20) ∧ s[op]? = some (.lst (us.map .str)) ∧ SrcAt s l ∧ Gr [l, op] s2 s)
      ⟨[], _, rfl, rfl, nofun, ho3, hs3, g3.mono (by simp)⟩ ?_ ?_
    · rintro i v e s hv ⟨us, kk, rfl, hl', hus, ho, hss, g4⟩
      obtain ⟨hi, rfl⟩ := rngs_get hv
      simp only [sat_ok, sat_bind, sat_v, sat_c, sat_bin, sat_un, sat_test, sat_truth, sat_and, sat_or, sat_not, sat_yes, sat_andv, sat_notv, sat_chain, sat_nil, sat_cons, sat_args, sat_call, sat_callX, sat_meth, sat_one, sat_oNone, sat_oSome, sat_sl, sat_tup, sat_lst, sat_loc, ss_nil, ss_seq, ss_set, ss_expr, ss_ret, ss_retN, ss_if, ss_tg, ss_par, ss_sub, ss_for, sat_comp, setTg, setTgs, wipeP, sizeLine_eq, List.map_cons, List.map_nil, List.length_cons, List.length_nil, List.cons_append, List.nil_append, List.set_cons_zero, List.set_cons_succ, List.getElem?_cons_zero, List.getElem?_cons_succ, Nat.reduceAdd, Nat.reduceSub, Nat.reduceLeDiff, List.reduceReplicate, Option.some.injEq, exists_eq_left', true_and, and_true, Nat.zero_add]
      refine ⟨o_isL ho, ?_⟩
      refine name' hss (Use.at' (n := 100) ho (by omega) (by simpa using nol)) (by decide) fun z s4 hz hs4 g5 => ?_
      have ho4 := g5.at' ho nol
      rw [o_app ho4]
      refine ⟨by rw [sizeLine_eq, List.length_map]; omega, ?_⟩
      have g6 : Gr [op] s4 (s4.set op (.lst (us.map .str ++ [.str z]))) := .set (by simp)
      refine ⟨us ++ [z], _, rfl, by simp; omega, fun u hu => ?_, by rw [List.map_append]; exact List.getElem?_set_self (lt_of_some ho4), hs4.gr g6 (by simpa using fun h : l = op => nol (by simp [h])), g4.trans ((g5.mono (by simp)).trans (g6.mono (by simp)))⟩
      rcases List.mem_append.mp hu with q | q
      · exact hus u q
      · rw [List.mem_singleton.mp q]; exact hz
    · rintro e s ⟨us, kk, rfl, hl', hus, ho, hss, g4⟩
      rw [rngs_len] at hl'
      exact ⟨us, kk, rfl, by intro z; subst z; simp at hl'; omega, by omega, hus, ho, hss, g4⟩
  rintro e s3 ⟨us, kk, rfl, hune, hul, hus, ho3, hs3, g3⟩
  refine seq_mid (fun e s => e = ([some (scr ns), some (PV.loc l), some (PV.int 5), some (PV.int 32), some (PV.int 40), some (PV.tup rows), some (PV.loc op), kk, some PV.non, none] : PEnv) ∧ s = s3) ?_ ?_
  · simp only [sat_ok, sat_bind, sat_v, sat_c, sat_bin, sat_un, sat_test, sat_truth, sat_and, sat_or, sat_not, sat_yes, sat_andv, sat_notv, sat_chain, sat_nil, sat_cons, sat_args, sat_call, sat_callX, sat_meth, sat_one, sat_oNone, sat_oSome, sat_sl, sat_tup, sat_lst, sat_loc, ss_nil, ss_seq, ss_set, ss_expr, ss_ret, ss_retN, ss_if, ss_tg, ss_par, ss_sub, ss_for, sat_comp, setTg, setTgs, wipeP, sizeLine_eq, List.map_cons, List.map_nil, List.length_cons, List.length_nil, List.cons_append, List.nil_append, List.set_cons_zero, List.set_cons_succ, List.getElem?_cons_zero, List.getElem?_cons_succ, Nat.reduceAdd, Nat.reduceSub, Nat.reduceLeDiff, List.reduceReplicate, Option.some.injEq, exists_eq_left', true_and, and_true, Nat.zero_add]
  rintro e s3 ⟨rfl, rfl⟩
  -- the top
  refine seq_mid (fun e s => ∃ (top : PV) (w : Option PV), e = ([some (scr ns), some (PV.loc l), some (PV.int 5), some (PV.int 32), some (PV.int 40), some (PV.tup rows), some (PV.loc op), kk, some top, w] : PEnv) ∧ (top = .non ∨ top ∈ rows) ∧ SrcAt s l ∧ Gr [l] s3 s) ?_ ?_
  · simp only [sat_ok, sat_bind, sat_v, sat_c, sat_bin, sat_un, sat_test, sat_truth, sat_and, sat_or, sat_not, sat_yes, sat_andv, sat_notv, sat_chain, sat_nil, sat_cons, sat_args, sat_call, sat_callX, sat_meth, sat_one, sat_oNone, sat_oSome, sat_sl, sat_tup, sat_lst, sat_loc, ss_nil, ss_seq, ss_set, ss_expr, ss_ret, ss_retN, ss_if, ss_tg, ss_par, ss_sub, ss_for, sat_comp, setTg, setTgs, wipeP, sizeLine_eq, List.map_cons, List.map_nil, List.length_cons, List.length_nil, List.cons_append, List.nil_append, List.set_cons_zero, List.set_cons_succ, List.getElem?_cons_zero, List.getElem?_cons_succ, Nat.reduceAdd, Nat.reduceSub, Nat.reduceLeDiff, List.reduceReplicate, Option.some.injEq, exists_eq_left', true_and, and_true, Nat.zero_add, o_addI, o_addS, o_addT, o_addL, o_subI, o_mulI, o_fdivI, o_modI, o_powI, o_negI, o_eqI, o_neI, o_eqS, o_neS, o_ltI, o_gtI, o_leI, o_geI, o_ltS, o_geS, o_inS, o_notInS, o_isN, o_isNotN, o_isT, o_isNotT, o_isS, o_isNotS, o_int, o_intB, o_abs, o_str, o_lenT, o_lenL, o_lenF, o_lenS, o_ixT, o_ixL, o_ixF, ixW_0, ixW_1, ixW_2, o_isStr, o_tupL, o_tupT, o_listT, o_listL, o_listLocT, o_gcd, o_bits, o_finF, o_finT, sat_iVal, sat_iEnum, sat_iRange1, sat_iRange2, o_itT, o_itL, o_itF, o_itS, o_enT, o_rng]
    refine for_inv0 (fun e s => ∃ (top : PV) (w : Option PV), e = ([some (scr ns), some (PV.loc l), some (PV.int 5), some (PV.int 32), some (PV.int 40), some (PV.tup rows), some (PV.loc op), kk, some top, w] : PEnv) ∧ (top = .non ∨ top ∈ rows) ∧ SrcAt s l ∧ Gr [l] s3 s) ⟨.non, _, rfl, .inl rfl, hs3, .refl⟩ ?_ (fun e s h => h)
    rintro v e s hv ⟨top, w, rfl, ht, hss, g4⟩
    refine ⟨_, rfl, ?_⟩
    rcases ht with rfl | ht
    · simp only [sat_ok, sat_bind, sat_v, sat_c, sat_bin, sat_un, sat_test, sat_truth, sat_and, sat_or, sat_not, sat_yes, sat_andv, sat_notv, sat_chain, sat_nil, sat_cons, sat_args, sat_call, sat_callX, sat_meth, sat_one, sat_oNone, sat_oSome, sat_sl, sat_tup, sat_lst, sat_loc, ss_nil, ss_seq, ss_set, ss_expr, ss_ret, ss_retN, ss_if, ss_tg, ss_par, ss_sub, ss_for, sat_comp, setTg, setTgs, wipeP, sizeLine_eq, List.map_cons, List.map_nil, List.length_cons, List.length_nil, List.cons_append, List.nil_append, List.set_cons_zero, List.set_cons_succ, List.getElem?_cons_zero, List.getElem?_cons_succ, Nat.reduceAdd, Nat.reduceSub, Nat.reduceLeDiff, List.reduceReplicate, Option.some.injEq, exists_eq_left', true_and, and_true, Nat.zero_add, o_addI, o_addS, o_addT, o_addL, o_subI, o_mulI, o_fdivI, o_modI, o_powI, o_negI, o_eqI, o_neI, o_eqS, o_neS, o_ltI, o_gtI, o_leI, o_geI, o_ltS, o_geS, o_inS, o_notInS, o_isN, o_isNotN, o_isT, o_isNotT, o_isS, o_isNotS, o_int, o_intB, o_abs, o_str, o_lenT, o_lenL, o_lenF, o_lenS, o_ixT, o_ixL, o_ixF, ixW_0, ixW_1, ixW_2, o_isStr, o_tupL, o_tupT, o_listT, o_listL, o_listLocT, o_gcd, o_bits, o_finF, o_finT, sat_iVal, sat_iEnum, sat_iRange1, sat_iRange2, o_itT, o_itL, o_itF, o_itS, o_enT, o_rng, Int.reduceLE, Int.reduceLT, nabs, Nat.reducePow, Nat.reduceLT, Int.reduceToNat, Int.reducePow, true_and, and_true, or_true, true_or, and_self, if_true, if_false, Bool.false_eq_true, decide_true, decide_false, not_false_eq_true, List.length_map]
      exact ⟨v, _, rfl, .inr hv, hss, g4⟩
    · obtain ⟨ws, hw1, hw2, hix⟩ := row_ix2 (hg top ht)
      simp only [sat_ok, sat_bind, sat_v, sat_c, sat_bin, sat_un, sat_test, sat_truth, sat_and, sat_or, sat_not, sat_yes, sat_andv, sat_notv, sat_chain, sat_nil, sat_cons, sat_args, sat_call, sat_callX, sat_meth, sat_one, sat_oNone, sat_oSome, sat_sl, sat_tup, sat_lst, sat_loc, ss_nil, ss_seq, ss_set, ss_expr, ss_ret, ss_retN, ss_if, ss_tg, ss_par, ss_sub, ss_for, sat_comp, setTg, setTgs, wipeP, sizeLine_eq, List.map_cons, List.map_nil, List.length_cons, List.length_nil, List.cons_append, List.nil_append, List.set_cons_zero, List.set_cons_succ, List.getElem?_cons_zero, List.getElem?_cons_succ, Nat.reduceAdd, Nat.reduceSub, Nat.reduceLeDiff, List.reduceReplicate, Option.some.injEq, exists_eq_left', true_and, and_true, Nat.zero_add, row_is (hg top ht), Int.reduceLE, Int.reduceLT, nabs, Nat.reducePow, Nat.reduceLT, Int.reduceToNat, Int.reducePow, true_and, and_true, or_true, true_or, and_self, if_true, if_false, Bool.false_eq_true, decide_true, decide_false, not_false_eq_true, List.length_map]
      rw [hix]
      simp only [o_addI, o_addS, o_addT, o_addL, o_subI, o_mulI, o_fdivI, o_modI, o_powI, o_negI, o_eqI, o_neI, o_eqS, o_neS, o_ltI, o_gtI, o_leI, o_geI, o_ltS, o_geS, o_inS, o_notInS, o_isN, o_isNotN, o_isT, o_isNotT, o_isS, o_isNotS, o_int, o_intB, o_abs, o_str, o_lenT, o_lenL, o_lenF, o_lenS, o_ixT, o_ixL, o_ixF, ixW_0, ixW_1, ixW_2, o_isStr, o_tupL, o_tupT, o_listT, o_listL, o_listLocT, o_gcd, o_bits, o_finF, o_finT, sat_iVal, sat_iEnum, sat_iRange1, sat_iRange2, o_itT, o_itL, o_itF, o_itS, o_enT, o_rng, sat_ok, sat_bind, sat_v, sat_c, sat_bin, sat_un, sat_test, sat_truth, sat_and, sat_or, sat_not, sat_yes, sat_andv, sat_notv, sat_chain, sat_nil, sat_cons, sat_args, sat_call, sat_callX, sat_meth, sat_one, sat_oNone, sat_oSome, sat_sl, sat_tup, sat_lst, sat_loc, ss_nil, ss_seq, ss_set, ss_expr, ss_ret, ss_retN, ss_if, ss_tg, ss_par, ss_sub, ss_for, sat_comp, setTg, setTgs, wipeP, sizeLine_eq, List.map_cons, List.map_nil, List.length_cons, List.length_nil, List.cons_append, List.nil_append, List.set_cons_zero, List.set_cons_succ, List.getElem?_cons_zero, List.getElem?_cons_succ, Nat.reduceAdd, Nat.reduceSub, Nat.reduceLeDiff, List.reduceReplicate, Option.some.injEq, exists_eq_left', true_and, and_true, Nat.zero_add]
      split
      · exact ⟨v, _, rfl, .inr hv, hss, g4⟩
      · refine draw' hss (by decide) (by decide) fun r s4 _ _ hs4 g5 => ?_
        simp only [sat_ok, sat_bind, sat_v, sat_c, sat_bin, sat_un, sat_test, sat_truth, sat_and, sat_or, sat_not, sat_yes, sat_andv, sat_notv, sat_chain, sat_nil, sat_cons, sat_args, sat_call, sat_callX, sat_meth, sat_one, sat_oNone, sat_oSome, sat_sl, sat_tup, sat_lst, sat_loc, ss_nil, ss_seq, ss_set, ss_expr, ss_ret, ss_retN, ss_if, ss_tg, ss_par, ss_sub, ss_for, sat_comp, setTg, setTgs, wipeP, sizeLine_eq, List.map_cons, List.map_nil, List.length_cons, List.length_nil, List.cons_append, List.nil_append, List.set_cons_zero, List.set_cons_succ, List.getElem?_cons_zero, List.getElem?_cons_succ, Nat.reduceAdd, Nat.reduceSub, Nat.reduceLeDiff, List.reduceReplicate, Option.some.injEq, exists_eq_left', true_and, and_true, Nat.zero_add, o_addI, o_addS, o_addT, o_addL, o_subI, o_mulI, o_fdivI, o_modI, o_powI, o_negI, o_eqI, o_neI, o_eqS, o_neS, o_ltI, o_gtI, o_leI, o_geI, o_ltS, o_geS, o_inS, o_notInS, o_isN, o_isNotN, o_isT, o_isNotT, o_isS, o_isNotS, o_int, o_intB, o_abs, o_str, o_lenT, o_lenL, o_lenF, o_lenS, o_ixT, o_ixL, o_ixF, ixW_0, ixW_1, ixW_2, o_isStr, o_tupL, o_tupT, o_listT, o_listL, o_listLocT, o_gcd, o_bits, o_finF, o_finT, sat_iVal, sat_iEnum, sat_iRange1, sat_iRange2, o_itT, o_itL, o_itF, o_itS, o_enT, o_rng]
        split
        · exact ⟨v, _, rfl, .inr hv, hs4, g4.trans g5⟩
        · exact ⟨top, _, rfl, .inr ht, hs4, g4.trans g5⟩
  rintro e s4 ⟨top, w, rfl, ht, hs4, g4⟩
  have ho4 := g4.at' ho3 nol
  simp only [sat_ok, sat_bind, sat_v, sat_c, sat_bin, sat_un, sat_test, sat_truth, sat_and, sat_or, sat_not, sat_yes, sat_andv, sat_notv, sat_chain, sat_nil, sat_cons, sat_args, sat_call, sat_callX, sat_meth, sat_one, sat_oNone, sat_oSome, sat_sl, sat_tup, sat_lst, sat_loc, ss_nil, ss_seq, ss_set, ss_expr, ss_ret, ss_retN, ss_if, ss_tg, ss_par, ss_sub, ss_for, sat_comp, setTg, setTgs, wipeP, sizeLine_eq, List.map_cons, List.map_nil, List.length_cons, List.length_nil, List.cons_append, List.nil_append, List.set_cons_zero, List.set_cons_succ, List.getElem?_cons_zero, List.getElem?_cons_succ, Nat.reduceAdd, Nat.reduceSub, Nat.reduceLeDiff, List.reduceReplicate, Option.some.injEq, exists_eq_left', true_and, and_true, Nat.zero_add, o_addI, o_addS, o_addT, o_addL, o_subI, o_mulI, o_fdivI, o_modI, o_powI, o_negI, o_eqI, o_neI, o_eqS, o_neS, o_ltI, o_gtI, o_leI, o_geI, o_ltS, o_geS, o_inS, o_notInS, o_isN, o_isNotN, o_isT, o_isNotT, o_isS, o_isNotS, o_int, o_intB, o_abs, o_str, o_lenT, o_lenL, o_lenF, o_lenS, o_ixT, o_ixL, o_ixF, ixW_0, ixW_1, ixW_2, o_isStr, o_tupL, o_tupT, o_listT, o_listL, o_listLocT, o_gcd, o_bits, o_finF, o_finT, sat_iVal, sat_iEnum, sat_iRange1, sat_iRange2, o_itT, o_itL, o_itF, o_itS, o_enT, o_rng]
  have g5 : Gr [] s4 (s4 ++ [PO.lst [.int 40]]) := .app
  have hs5 := hs4.gr g5 (by simp)
  have ho5 := g5.at' ho4 (by simp)
  have hol := lt_of_some ho4
  have hll := hs4.lt
  refine tree_ok hune (by omega) (fun u hu => by have := hus u hu; omega) (by intro z; exact nol (by simp [z])) (by omega) (by omega) 60 rows top _ _ (by omega) (by omega) hg ht hs5 ⟨40, by simp⟩ ho5 fun v s h1 h2 h3 h4 => ?_
  try simp only [sat_ok, sat_bind, sat_v, sat_c, sat_bin, sat_un, sat_test, sat_truth, sat_and, sat_or, sat_not, sat_yes, sat_andv, sat_notv, sat_chain, sat_nil, sat_cons, sat_args, sat_call, sat_callX, sat_meth, sat_one, sat_oNone, sat_oSome, sat_sl, sat_tup, sat_lst, sat_loc, ss_nil, ss_seq, ss_set, ss_expr, ss_ret, ss_retN, ss_if, ss_tg, ss_par, ss_sub, ss_for, sat_comp, setTg, setTgs, wipeP, sizeLine_eq, List.map_cons, List.map_nil, List.length_cons, List.length_nil, List.cons_append, List.nil_append, List.set_cons_zero, List.set_cons_succ, List.getElem?_cons_zero, List.getElem?_cons_succ, Nat.reduceAdd, Nat.reduceSub, Nat.reduceLeDiff, List.reduceReplicate, Option.some.injEq, exists_eq_left', true_and, and_true, Nat.zero_add]
  refine k rows v s hrl hg (h1.mono (Nat.le_refl _) hrl) h2 ?_
  have a : Gr [l] s1 s := (((g2.mono (L' := [l, op, s4.length]) (by simp)).trans ((g3.mono (by simp)).trans (g4.mono (by simp)))).trans ((g5.mono (by simp)).trans (h4.mono (by simp)))).cut (by
    intro j hj hlt
    have := g3.len; have := g4.len; have := g2.len
    simp only [List.mem_cons, List.not_mem_nil, or_false] at hj ⊢
    omega)
  exact g1.trans a
end PL
/-! PL, part v: sizes, bad names. -/
namespace PL
open PySem PySem.Spec PyProof.Rows L2
theorem kit_ss : kitB "str" "str" = some true := by decide +kernel
theorem kit_ts : kitB "tuple" "str" = some false := by decide +kernel
theorem isi_s {z : Str} {st : Store} {Q : PV → Store → Prop} : Sat (pIsi [.str z, .con (.ty "str")] st) Q = Q (.bl true) st := by
  have : pIsi [.str z, .con (.ty "str")] st = .ok (.bl true) st := by
    unfold pIsi
    simp only [tyName, kit_ss]
  rw [this, sat_ok]
theorem isi_t {xs : List PV} {st : Store} {Q : PV → Store → Prop} : Sat (pIsi [.tup xs, .con (.ty "str")] st) Q = Q (.bl false) st := by
  have : pIsi [.tup xs, .con (.ty "str")] st = .ok (.bl false) st := by
    unfold pIsi
    simp only [tyName, kit_ts]
  rw [this, sat_ok]
theorem o_sum {ws : List Int} {st : Store} {Q : PV → Store → Prop} : Sat (pSum (.lst (ints' ws)) st) Q = Q (.int ws.sum) st := by
  have : pSum (.lst (ints' ws)) st = .ok (.int ws.sum) st := by
    unfold pSum
    simp only [seqOf, intsOf_ints]
  rw [this, sat_ok]
theorem sum_bound : ∀ {ws : List Int} {B : Int}, (∀ w ∈ ws, 1 ≤ w ∧ w ≤ B) → 0 ≤ ws.sum ∧ ws.sum ≤ ws.length * B
  | [], B, _ => by simp
  | w :: ws, B, h => by
    have h1 := h w List.mem_cons_self
    have h2 := sum_bound (ws := ws) (B := B) fun x m => h x (List.mem_cons_of_mem _ m)
    have e : ((w :: ws).length : Int) * B = ws.length * B + B := by simp [Int.add_mul]
    rw [e, List.sum_cons]
    omega
theorem size_ok {c : Nat} (hc : c ≤ 1000) : ∀ (n d : Nat) (v : PV) (st : Store) (Q : PV → Store → Prop), TreeOk c d v → d < n → (∀ k : Int, 1 ≤ k → k ≤ ((c + 1) ^ (d + 1) : Nat) → Q (.int k) st) → Sat (fuelF 2 f_law_size n [v] st) Q
  | 0, d, v, st, Q, _, hn, _ => absurd hn (Nat.not_lt_zero _)
  | n + 1, d, v, st, Q, h, hn, k => by
    refine sat_body ?_
    unfold f_law_size
    have hp : (1 : Int) ≤ ((c + 1) ^ (d + 1) : Nat) := by
      have : 0 < (c + 1) ^ (d + 1) := Nat.pow_pos (Nat.succ_pos c)
      omega
    cases h with
    | leaf hz =>
      simp only [sat_ok, sat_bind, sat_v, sat_c, sat_bin, sat_un, sat_test, sat_truth, sat_and, sat_or, sat_not, sat_yes, sat_andv, sat_notv, sat_chain, sat_nil, sat_cons, sat_args, sat_call, sat_callX, sat_meth, sat_one, sat_oNone, sat_oSome, sat_sl, sat_tup, sat_lst, sat_loc, ss_nil, ss_seq, ss_set, ss_expr, ss_ret, ss_retN, ss_if, ss_tg, ss_par, ss_sub, ss_for, sat_comp, setTg, setTgs, wipeP, sizeLine_eq, List.map_cons, List.map_nil, List.length_cons, List.length_nil, List.cons_append, List.nil_append, List.set_cons_zero, List.set_cons_succ, List.getElem?_cons_zero, List.getElem?_cons_succ, Nat.reduceAdd, Nat.reduceSub, Nat.reduceLeDiff, List.reduceReplicate, Option.some.injEq, exists_eq_left', true_and, and_true, Nat.zero_add, o_addI, o_addS, o_addT, o_addL, o_subI, o_mulI, o_fdivI, o_modI, o_powI, o_negI, o_eqI, o_neI, o_eqS, o_neS, o_ltI, o_gtI, o_leI, o_geI, o_ltS, o_geS, o_inS, o_notInS, o_isN, o_isNotN, o_isT, o_isNotT, o_isS, o_isNotS, o_int, o_intB, o_abs, o_str, o_lenT, o_lenL, o_lenF, o_lenS, o_ixT, o_ixL, o_ixF, ixW_0, ixW_1, ixW_2, o_isStr, o_tupL, o_tupT, o_listT, o_listL, o_listLocT, o_gcd, o_bits, o_finF, o_finT, sat_iVal, sat_iEnum, sat_iRange1, sat_iRange2, o_itT, o_itL, o_itF, o_itS, o_enT, o_rng, isi_s, if_true]
      exact k 1 (by decide) hp
    | @node d nm cs hnm hcs hk =>
      simp only [sat_ok, sat_bind, sat_v, sat_c, sat_bin, sat_un, sat_test, sat_truth, sat_and, sat_or, sat_not, sat_yes, sat_andv, sat_notv, sat_chain, sat_nil, sat_cons, sat_args, sat_call, sat_callX, sat_meth, sat_one, sat_oNone, sat_oSome, sat_sl, sat_tup, sat_lst, sat_loc, ss_nil, ss_seq, ss_set, ss_expr, ss_ret, ss_retN, ss_if, ss_tg, ss_par, ss_sub, ss_for, sat_comp, setTg, setTgs, wipeP, sizeLine_eq, List.map_cons, List.map_nil, List.length_cons, List.length_nil, List.cons_append, List.nil_append, List.set_cons_zero, List.set_cons_succ, List.getElem?_cons_zero, List.getElem?_cons_succ, Nat.reduceAdd, Nat.reduceSub, Nat.reduceLeDiff, List.reduceReplicate, Option.some.injEq, exists_eq_left', true_and, and_true, Nat.zero_add, o_addI, o_addS, o_addT, o_addL, o_subI, o_mulI, o_fdivI, o_modI, o_powI, o_negI, o_eqI, o_neI, o_eqS, o_neS, o_ltI, o_gtI, o_leI, o_geI, o_ltS, o_geS, o_inS, o_notInS, o_isN, o_isNotN, o_isT, o_isNotT, o_isS, o_isNotS, o_int, o_intB, o_abs, o_str, o_lenT, o_lenL, o_lenF, o_lenS, o_ixT, o_ixL, o_ixF, ixW_0, ixW_1, ixW_2, o_isStr, o_tupL, o_tupT, o_listT, o_listL, o_listLocT, o_gcd, o_bits, o_finF, o_finT, sat_iVal, sat_iEnum, sat_iRange1, sat_iRange2, o_itT, o_itL, o_itF, o_itS, o_enT, o_rng, isi_t, Bool.false_eq_true, if_false]
      refine comp_inv (fun i acc s => s = st ∧ acc.length = i ∧ ∀ y ∈ acc, ∃ w, y = .int w ∧ (1 ≤ w ∧ w ≤ ((c + 1) ^ (d + 1) : Nat))) (k := 0) ⟨rfl, rfl, nofun⟩ ?_ ?_
      · rintro i x s acc hv ⟨rfl, hl, hE⟩
        refine ⟨_, rfl, ?_⟩
        rw [sat_yes, if_pos rfl]
        simp only [sat_ok, sat_bind, sat_v, sat_c, sat_bin, sat_un, sat_test, sat_truth, sat_and, sat_or, sat_not, sat_yes, sat_andv, sat_notv, sat_chain, sat_nil, sat_cons, sat_args, sat_call, sat_callX, sat_meth, sat_one, sat_oNone, sat_oSome, sat_sl, sat_tup, sat_lst, sat_loc, ss_nil, ss_seq, ss_set, ss_expr, ss_ret, ss_retN, ss_if, ss_tg, ss_par, ss_sub, ss_for, sat_comp, setTg, setTgs, wipeP, sizeLine_eq, List.map_cons, List.map_nil, List.length_cons, List.length_nil, List.cons_append, List.nil_append, List.set_cons_zero, List.set_cons_succ, List.getElem?_cons_zero, List.getElem?_cons_succ, Nat.reduceAdd, Nat.reduceSub, Nat.reduceLeDiff, List.reduceReplicate, Option.some.injEq, exists_eq_left', true_and, and_true, Nat.zero_add]
        refine size_ok hc n d x s _ (hk x (List.mem_of_getElem? hv)) (by omega) fun w h1 h2 => ?_
        have hi : i < cs.length := (List.getElem?_eq_some_iff.mp hv).1
        refine ⟨by omega, rfl, by simp; omega, fun y hy => ?_⟩
        rcases List.mem_append.mp hy with q | q
        · exact hE y q
        · exact ⟨w, List.mem_singleton.mp q, h1, h2⟩
      · rintro acc s ⟨rfl, hl, hE⟩
        obtain ⟨ws, rfl, hw⟩ := ints_of hE
        simp only [sat_ok, sat_bind, sat_v, sat_c, sat_bin, sat_un, sat_test, sat_truth, sat_and, sat_or, sat_not, sat_yes, sat_andv, sat_notv, sat_chain, sat_nil, sat_cons, sat_args, sat_call, sat_callX, sat_meth, sat_one, sat_oNone, sat_oSome, sat_sl, sat_tup, sat_lst, sat_loc, ss_nil, ss_seq, ss_set, ss_expr, ss_ret, ss_retN, ss_if, ss_tg, ss_par, ss_sub, ss_for, sat_comp, setTg, setTgs, wipeP, sizeLine_eq, List.map_cons, List.map_nil, List.length_cons, List.length_nil, List.cons_append, List.nil_append, List.set_cons_zero, List.set_cons_succ, List.getElem?_cons_zero, List.getElem?_cons_succ, Nat.reduceAdd, Nat.reduceSub, Nat.reduceLeDiff, List.reduceReplicate, Option.some.injEq, exists_eq_left', true_and, and_true, Nat.zero_add, o_addI, o_addS, o_addT, o_addL, o_subI, o_mulI, o_fdivI, o_modI, o_powI, o_negI, o_eqI, o_neI, o_eqS, o_neS, o_ltI, o_gtI, o_leI, o_geI, o_ltS, o_geS, o_inS, o_notInS, o_isN, o_isNotN, o_isT, o_isNotT, o_isS, o_isNotS, o_int, o_intB, o_abs, o_str, o_lenT, o_lenL, o_lenF, o_lenS, o_ixT, o_ixL, o_ixF, ixW_0, ixW_1, ixW_2, o_isStr, o_tupL, o_tupT, o_listT, o_listL, o_listLocT, o_gcd, o_bits, o_finF, o_finT, sat_iVal, sat_iEnum, sat_iRange1, sat_iRange2, o_itT, o_itL, o_itF, o_itS, o_enT, o_rng, o_sum]
        have hb := sum_bound hw
        have hl' : ws.length ≤ c := by simp at hl; omega
        refine k _ (by omega) ?_
        have e : ((c + 1) ^ (d + 1 + 1) : Nat) = (c + 1) ^ (d + 1) * c + (c + 1) ^ (d + 1) := by rw [Nat.pow_succ, Nat.mul_add, Nat.mul_one]
        have m : ws.length * (c + 1) ^ (d + 1) ≤ (c + 1) ^ (d + 1) * c := by rw [Nat.mul_comm]; exact Nat.mul_le_mul_left _ hl'
        have hb2 : ws.sum ≤ ((ws.length * (c + 1) ^ (d + 1) : Nat) : Int) := by
          have := hb.2
          push_cast at this ⊢
          exact this
        have p1 : 0 < (c + 1) ^ (d + 1) := Nat.pow_pos (Nat.succ_pos c)
        rw [e]
        omega
theorem bad_ok {ns : List Int} {l : Nat} {st : Store} {Q : PV → Store → Prop} (hs : SrcAt st l) (k : ∀ z s, z.length ≤ 20 → SrcAt s l → Gr [l] st s → Q (.str z) s) : Sat (m_law_bad_name [scr ns, .loc l] st) Q := by
  refine sat_body ?_
  unfold f_law_bad_name
  simp only [sat_ok, sat_bind, sat_v, sat_c, sat_bin, sat_un, sat_test, sat_truth, sat_and, sat_or, sat_not, sat_yes, sat_andv, sat_notv, sat_chain, sat_nil, sat_cons, sat_args, sat_call, sat_callX, sat_meth, sat_one, sat_oNone, sat_oSome, sat_sl, sat_tup, sat_lst, sat_loc, ss_nil, ss_seq, ss_set, ss_expr, ss_ret, ss_retN, ss_if, ss_tg, ss_par, ss_sub, ss_for, sat_comp, setTg, setTgs, wipeP, sizeLine_eq, List.map_cons, List.map_nil, List.length_cons, List.length_nil, List.cons_append, List.nil_append, List.set_cons_zero, List.set_cons_succ, List.getElem?_cons_zero, List.getElem?_cons_succ, Nat.reduceAdd, Nat.reduceSub, Nat.reduceLeDiff, List.reduceReplicate, Option.some.injEq, exists_eq_left', true_and, and_true, Nat.zero_add, o_addI, o_addS, o_addT, o_addL, o_subI, o_mulI, o_fdivI, o_modI, o_powI, o_negI, o_eqI, o_neI, o_eqS, o_neS, o_ltI, o_gtI, o_leI, o_geI, o_ltS, o_geS, o_inS, o_notInS, o_isN, o_isNotN, o_isT, o_isNotT, o_isS, o_isNotS, o_int, o_intB, o_abs, o_str, o_lenT, o_lenL, o_lenF, o_lenS, o_ixT, o_ixL, o_ixF, ixW_0, ixW_1, ixW_2, o_isStr, o_tupL, o_tupT, o_listT, o_listL, o_listLocT, o_gcd, o_bits, o_finF, o_finT, sat_iVal, sat_iEnum, sat_iRange1, sat_iRange2, o_itT, o_itL, o_itF, o_itS, o_enT, o_rng]
  refine draw' hs (by decide) (by decide) fun r s c0 c1 hs1 g => ?_
  simp only [o_addI, o_addS, o_addT, o_addL, o_subI, o_mulI, o_fdivI, o_modI, o_powI, o_negI, o_eqI, o_neI, o_eqS, o_neS, o_ltI, o_gtI, o_leI, o_geI, o_ltS, o_geS, o_inS, o_notInS, o_isN, o_isNotN, o_isT, o_isNotT, o_isS, o_isNotS, o_int, o_intB, o_abs, o_str, o_lenT, o_lenL, o_lenF, o_lenS, o_ixT, o_ixL, o_ixF, ixW_0, ixW_1, ixW_2, o_isStr, o_tupL, o_tupT, o_listT, o_listL, o_listLocT, o_gcd, o_bits, o_finF, o_finT, sat_iVal, sat_iEnum, sat_iRange1, sat_iRange2, o_itT, o_itL, o_itF, o_itS, o_enT, o_rng]
  refine draw_len c0 (by show r < 13; exact c1) fun y hy => ?_
  obtain ⟨z, rfl, hz⟩ : ∃ z, y = .str z ∧ z.length ≤ 20 := by
    simp only [List.mem_cons, List.not_mem_nil, or_false] at hy
    rcases hy with rfl | rfl | rfl | rfl | rfl | rfl | rfl | rfl | rfl | rfl | rfl | rfl | rfl <;> exact ⟨_, rfl, by decide +kernel⟩
  exact k z s hz hs1 g
end PL
/-! PL, part w: rows spoilt. -/
namespace PL
open PySem PySem.Spec PyProof.Rows L2
/-- a row, drawn or spoilt -/
def SRow (c : Nat) (v : PV) : Prop := ∃ (name : Str) (owner : Int) (ws : List Int), v = .tup [.str name, .int owner, .tup (ints' ws)] ∧ name.length ≤ 60 ∧ ws.length ≤ c ∧ ∀ w ∈ ws, w.natAbs < 2 ^ 200
theorem GRow.srow {v : PV} (h : GRow v) : SRow 65 v := by
  obtain ⟨n, o, ws, rfl, h1, h2, h3, h4⟩ := h
  exact ⟨n, o, ws, rfl, by omega, by omega, fun w m => (h4 w m).2⟩
theorem SRow.mono {c c' : Nat} {v : PV} (h : SRow c v) (hc : c ≤ c') : SRow c' v := by
  obtain ⟨n, o, ws, rfl, h1, h2, h3⟩ := h
  exact ⟨n, o, ws, rfl, h1, by omega, h3⟩
theorem cutP_mem {xs : List PV} {lo hi : Option Int} {x : PV} (h : x ∈ cutP xs lo hi) : x ∈ xs := List.mem_of_mem_drop (List.mem_of_mem_take h)
theorem cutP_len {xs : List PV} {lo hi : Option Int} : (cutP xs lo hi).length ≤ xs.length := by
  unfold cutP
  rw [List.length_take, List.length_drop]
  omega
theorem o_slT {xs : List PV} {lo hi : Option Int} {st : Store} {Q : PV → Store → Prop} : Sat (pSl (.tup xs) lo hi st) Q = Q (.tup (cutP xs lo hi)) st := sat_of rfl
theorem ixN_in {n : Nat} {i : Int} (h0 : 0 ≤ i) (h1 : i < n) : ixN n i = some i.toNat := by unfold ixN; rw [if_pos h0, if_pos h1]
theorem o_mulT {xs : List PV} {i : Int} {st : Store} {Q : PV → Store → Prop} : Sat (pMul (.tup xs) (.int i) st) Q = ((xs ≠ [] ∧ 2 ≤ i ∧ i ≤ 1000 ∧ xs.length ≤ 1000) ∧ Q (.tup (List.replicate i.toNat xs).flatten) st) := by show Sat (if _ then _ else _) Q = _; rw [eq_if, sat_ok]
theorem rep_ints (n : Nat) : (List.replicate n [PV.int 1]).flatten = ints' (List.replicate n 1) := by
  induction n with
  | zero => rfl
  | succ n ih => rw [List.replicate_succ, List.flatten_cons, ih]; rfl
theorem spoilt_rows_ok {ns : List Int} {l c : Nat} {rows : List PV} {st : Store} {Q : PV → Store → Prop} (hs : SrcAt st l) (hne : rows ≠ []) (hlen : rows.length ≤ 1000) (hc : 65 ≤ c) (hc2 : c ≤ 1000) (hr : ∀ r ∈ rows, SRow c r)
    (k : ∀ rows' s, rows'.length ≤ 2 * rows.length + 1 → (∀ r ∈ rows', SRow (c + 1) r) → SrcAt s l → Gr [l] st s → Q (.tup rows') s) : Sat (m_law_spoilt_rows [scr ns, .loc l, .tup rows] st) Q := by
  have hlen0 : 0 < rows.length := List.length_pos_iff.mpr hne
  have hr' : ∀ r ∈ rows, SRow (c + 1) r := fun r m => (hr r m).mono (by omega)
  refine sat_body ?_
  unfold f_law_spoilt_rows
  simp only [List.map_cons, List.map_nil, List.length_cons, List.length_nil, Nat.reduceAdd, Nat.reduceSub, List.reduceReplicate, List.cons_append, List.nil_append]
  -- at
  refine seq_mid (fun e s => ∃ at' : Int, 0 ≤ at' ∧ at' < rows.length ∧ e = ([some (scr ns), some (PV.loc l), some (PV.tup rows), some (PV.int at'), none, none, none, none, none, none, none] : PEnv) ∧ SrcAt s l ∧ Gr [l] st s) ?_ ?_
  · simp only [sat_ok, sat_bind, sat_v, sat_c, sat_bin, sat_un, sat_test, sat_truth, sat_and, sat_or, sat_not, sat_yes, sat_andv, sat_notv, sat_chain, sat_nil, sat_cons, sat_args, sat_call, sat_callX, sat_meth, sat_one, sat_oNone, sat_oSome, sat_sl, sat_tup, sat_lst, sat_loc, ss_nil, ss_seq, ss_set, ss_expr, ss_ret, ss_retN, ss_if, ss_tg, ss_par, ss_sub, ss_for, sat_comp, setTg, setTgs, wipeP, sizeLine_eq, List.map_cons, List.map_nil, List.length_cons, List.length_nil, List.cons_append, List.nil_append, List.set_cons_zero, List.set_cons_succ, List.getElem?_cons_zero, List.getElem?_cons_succ, Nat.reduceAdd, Nat.reduceSub, Nat.reduceLeDiff, List.reduceReplicate, Option.some.injEq, exists_eq_left', true_and, and_true, Nat.zero_add, o_addI, o_addS, o_addT, o_addL, o_subI, o_mulI, o_fdivI, o_modI, o_powI, o_negI, o_eqI, o_neI, o_eqS, o_neS, o_ltI, o_gtI, o_leI, o_geI, o_ltS, o_geS, o_inS, o_notInS, o_isN, o_isNotN, o_isT, o_isNotT, o_isS, o_isNotS, o_int, o_intB, o_abs, o_str, o_lenT, o_lenL, o_lenF, o_lenS, o_ixT, o_ixL, o_ixF, ixW_0, ixW_1, ixW_2, o_isStr, o_tupL, o_tupT, o_listT, o_listL, o_listLocT, o_gcd, o_bits, o_finF, o_finT, sat_iVal, sat_iEnum, sat_iRange1, sat_iRange2, o_itT, o_itL, o_itF, o_itS, o_enT, o_rng]
    exact draw' hs (by omega) (log2_k (n := 1000) (by omega) (by omega)) fun r s a0 a1 hs1 g1 => ⟨r, a0, a1, rfl, hs1, g1⟩
  rintro e s1 ⟨at', a0, a1, rfl, hs1, g1⟩
  refine seq_mid (fun e s => ∃ (name : Str) (ow : Int) (ws : List Int), e = ([some (scr ns), some (PV.loc l), some (PV.tup rows), some (PV.int at'), none, some (PV.str name), some (PV.int ow), some (PV.tup (ints' ws)), none, none, none] : PEnv) ∧ name.length ≤ 60 ∧ ws.length ≤ c ∧ (∀ w ∈ ws, w.natAbs < 2 ^ 200) ∧ s = s1) ?_ ?_
  · simp only [sat_ok, sat_bind, sat_v, sat_c, sat_bin, sat_un, sat_test, sat_truth, sat_and, sat_or, sat_not, sat_yes, sat_andv, sat_notv, sat_chain, sat_nil, sat_cons, sat_args, sat_call, sat_callX, sat_meth, sat_one, sat_oNone, sat_oSome, sat_sl, sat_tup, sat_lst, sat_loc, ss_nil, ss_seq, ss_set, ss_expr, ss_ret, ss_retN, ss_if, ss_tg, ss_par, ss_sub, ss_for, sat_comp, setTg, setTgs, wipeP, sizeLine_eq, List.map_cons, List.map_nil, List.length_cons, List.length_nil, List.cons_append, List.nil_append, List.set_cons_zero, List.set_cons_succ, List.getElem?_cons_zero, List.getElem?_cons_succ, Nat.reduceAdd, Nat.reduceSub, Nat.reduceLeDiff, List.reduceReplicate, Option.some.injEq, exists_eq_left', true_and, and_true, Nat.zero_add, o_addI, o_addS, o_addT, o_addL, o_subI, o_mulI, o_fdivI, o_modI, o_powI, o_negI, o_eqI, o_neI, o_eqS, o_neS, o_ltI, o_gtI, o_leI, o_geI, o_ltS, o_geS, o_inS, o_notInS, o_isN, o_isNotN, o_isT, o_isNotT, o_isS, o_isNotS, o_int, o_intB, o_abs, o_str, o_lenT, o_lenL, o_lenF, o_lenS, o_ixT, o_ixL, o_ixF, ixW_0, ixW_1, ixW_2, o_isStr, o_tupL, o_tupT, o_listT, o_listL, o_listLocT, o_gcd, o_bits, o_finF, o_finT, sat_iVal, sat_iEnum, sat_iRange1, sat_iRange2, o_itT, o_itL, o_itF, o_itS, o_enT, o_rng]
    refine ixW_in a0 a1 fun row hrow => ?_
    obtain ⟨name, ow, ws, rfl, hn, hw, hwb⟩ := hr _ (List.mem_of_getElem? hrow)
    exact ⟨_, rfl, name, ow, ws, by simp only [sat_ok, sat_bind, sat_v, sat_c, sat_bin, sat_un, sat_test, sat_truth, sat_and, sat_or, sat_not, sat_yes, sat_andv, sat_notv, sat_chain, sat_nil, sat_cons, sat_args, sat_call, sat_callX, sat_meth, sat_one, sat_oNone, sat_oSome, sat_sl, sat_tup, sat_lst, sat_loc, ss_nil, ss_seq, ss_set, ss_expr, ss_ret, ss_retN, ss_if, ss_tg, ss_par, ss_sub, ss_for, sat_comp, setTg, setTgs, wipeP, sizeLine_eq, List.map_cons, List.map_nil, List.length_cons, List.length_nil, List.cons_append, List.nil_append, List.set_cons_zero, List.set_cons_succ, List.getElem?_cons_zero, List.getElem?_cons_succ, Nat.reduceAdd, Nat.reduceSub, Nat.reduceLeDiff, List.reduceReplicate, Option.some.injEq, exists_eq_left', true_and, and_true, Nat.zero_add], hn, hw, hwb⟩
  rintro e s2 ⟨name, ow, ws, rfl, hn, hw, hwb, rfl⟩
  refine seq_mid (fun e s => ∃ kind : Int, e = ([some (scr ns), some (PV.loc l), some (PV.tup rows), some (PV.int at'), some (PV.int kind), some (PV.str name), some (PV.int ow), some (PV.tup (ints' ws)), none, none, none] : PEnv) ∧ SrcAt s l ∧ Gr [l] st s) ?_ ?_
  · simp only [sat_ok, sat_bind, sat_v, sat_c, sat_bin, sat_un, sat_test, sat_truth, sat_and, sat_or, sat_not, sat_yes, sat_andv, sat_notv, sat_chain, sat_nil, sat_cons, sat_args, sat_call, sat_callX, sat_meth, sat_one, sat_oNone, sat_oSome, sat_sl, sat_tup, sat_lst, sat_loc, ss_nil, ss_seq, ss_set, ss_expr, ss_ret, ss_retN, ss_if, ss_tg, ss_par, ss_sub, ss_for, sat_comp, setTg, setTgs, wipeP, sizeLine_eq, List.map_cons, List.map_nil, List.length_cons, List.length_nil, List.cons_append, List.nil_append, List.set_cons_zero, List.set_cons_succ, List.getElem?_cons_zero, List.getElem?_cons_succ, Nat.reduceAdd, Nat.reduceSub, Nat.reduceLeDiff, List.reduceReplicate, Option.some.injEq, exists_eq_left', true_and, and_true, Nat.zero_add, o_addI, o_addS, o_addT, o_addL, o_subI, o_mulI, o_fdivI, o_modI, o_powI, o_negI, o_eqI, o_neI, o_eqS, o_neS, o_ltI, o_gtI, o_leI, o_geI, o_ltS, o_geS, o_inS, o_notInS, o_isN, o_isNotN, o_isT, o_isNotT, o_isS, o_isNotS, o_int, o_intB, o_abs, o_str, o_lenT, o_lenL, o_lenF, o_lenS, o_ixT, o_ixL, o_ixF, ixW_0, ixW_1, ixW_2, o_isStr, o_tupL, o_tupT, o_listT, o_listL, o_listLocT, o_gcd, o_bits, o_finF, o_finT, sat_iVal, sat_iEnum, sat_iRange1, sat_iRange2, o_itT, o_itL, o_itF, o_itS, o_enT, o_rng]
    exact draw' hs1 (by decide) (by decide) fun r s _ _ hs2 g2 => ⟨r, rfl, hs2, g1.trans g2⟩
  rintro e s3 ⟨kind, rfl, hs3, g3⟩
  refine seq_mid (fun e s => ∃ name : Str, e = ([some (scr ns), some (PV.loc l), some (PV.tup rows), some (PV.int at'), some (PV.int kind), some (PV.str name), some (PV.int ow), some (PV.tup (ints' ws)), none, none, none] : PEnv) ∧ name.length ≤ 60 ∧ SrcAt s l ∧ Gr [l] st s) ?_ ?_
  · simp only [sat_ok, sat_bind, sat_v, sat_c, sat_bin, sat_un, sat_test, sat_truth, sat_and, sat_or, sat_not, sat_yes, sat_andv, sat_notv, sat_chain, sat_nil, sat_cons, sat_args, sat_call, sat_callX, sat_meth, sat_one, sat_oNone, sat_oSome, sat_sl, sat_tup, sat_lst, sat_loc, ss_nil, ss_seq, ss_set, ss_expr, ss_ret, ss_retN, ss_if, ss_tg, ss_par, ss_sub, ss_for, sat_comp, setTg, setTgs, wipeP, sizeLine_eq, List.map_cons, List.map_nil, List.length_cons, List.length_nil, List.cons_append, List.nil_append, List.set_cons_zero, List.set_cons_succ, List.getElem?_cons_zero, List.getElem?_cons_succ, Nat.reduceAdd, Nat.reduceSub, Nat.reduceLeDiff, List.reduceReplicate, Option.some.injEq, exists_eq_left', true_and, and_true, Nat.zero_add, o_addI, o_addS, o_addT, o_addL, o_subI, o_mulI, o_fdivI, o_modI, o_powI, o_negI, o_eqI, o_neI, o_eqS, o_neS, o_ltI, o_gtI, o_leI, o_geI, o_ltS, o_geS, o_inS, o_notInS, o_isN, o_isNotN, o_isT, o_isNotT, o_isS, o_isNotS, o_int, o_intB, o_abs, o_str, o_lenT, o_lenL, o_lenF, o_lenS, o_ixT, o_ixL, o_ixF, ixW_0, ixW_1, ixW_2, o_isStr, o_tupL, o_tupT, o_listT, o_listL, o_listLocT, o_gcd, o_bits, o_finF, o_finT, sat_iVal, sat_iEnum, sat_iRange1, sat_iRange2, o_itT, o_itL, o_itF, o_itS, o_enT, o_rng]
    split
    · exact bad_ok hs3 fun z s hz h1 h2 => ⟨z, rfl, by omega, h1, g3.trans h2⟩
    · exact ⟨name, rfl, hn, hs3, g3⟩
  rintro e s4 ⟨name, rfl, hn, hs4, g4⟩
  -- two rows
  refine seq_mid (fun e s => e = ([some (scr ns), some (PV.loc l), some (PV.tup rows), some (PV.int at'), some (PV.int kind), some (PV.str name), some (PV.int ow), some (PV.tup (ints' ws)), none, none, none] : PEnv) ∧ s = s4) ?_ ?_
  · rw [ss_if]
    simp only [sat_test, sat_bin, sat_v, sat_c, List.getElem?_cons_zero, List.getElem?_cons_succ, o_eqI, sat_truth]
    split
    · refine seq_mid (fun e s => ∃ oth : Int, 0 ≤ oth ∧ oth < rows.length ∧ e = ([some (scr ns), some (PV.loc l), some (PV.tup rows), some (PV.int at'), some (PV.int kind), some (PV.str name), some (PV.int ow), some (PV.tup (ints' ws)), some (PV.int oth), none, none] : PEnv) ∧ SrcAt s l ∧ Gr [l] st s) ?_ ?_
      · simp only [sat_ok, sat_bind, sat_v, sat_c, sat_bin, sat_un, sat_test, sat_truth, sat_and, sat_or, sat_not, sat_yes, sat_andv, sat_notv, sat_chain, sat_nil, sat_cons, sat_args, sat_call, sat_callX, sat_meth, sat_one, sat_oNone, sat_oSome, sat_sl, sat_tup, sat_lst, sat_loc, ss_nil, ss_seq, ss_set, ss_expr, ss_ret, ss_retN, ss_if, ss_tg, ss_par, ss_sub, ss_for, sat_comp, setTg, setTgs, wipeP, sizeLine_eq, List.map_cons, List.map_nil, List.length_cons, List.length_nil, List.cons_append, List.nil_append, List.set_cons_zero, List.set_cons_succ, List.getElem?_cons_zero, List.getElem?_cons_succ, Nat.reduceAdd, Nat.reduceSub, Nat.reduceLeDiff, List.reduceReplicate, Option.some.injEq, exists_eq_left', true_and, and_true, Nat.zero_add, o_addI, o_addS, o_addT, o_addL, o_subI, o_mulI, o_fdivI, o_modI, o_powI, o_negI, o_eqI, o_neI, o_eqS, o_neS, o_ltI, o_gtI, o_leI, o_geI, o_ltS, o_geS, o_inS, o_notInS, o_isN, o_isNotN, o_isT, o_isNotT, o_isS, o_isNotS, o_int, o_intB, o_abs, o_str, o_lenT, o_lenL, o_lenF, o_lenS, o_ixT, o_ixL, o_ixF, ixW_0, ixW_1, ixW_2, o_isStr, o_tupL, o_tupT, o_listT, o_listL, o_listLocT, o_gcd, o_bits, o_finF, o_finT, sat_iVal, sat_iEnum, sat_iRange1, sat_iRange2, o_itT, o_itL, o_itF, o_itS, o_enT, o_rng]
        exact draw' hs4 (by omega) (log2_k (n := 1000) (by omega) (by omega)) fun r s a0 a1 hs1 g1 => ⟨r, a0, a1, rfl, hs1, g4.trans g1⟩
      rintro e s5 ⟨oth, o0, o1, rfl, hs5, g5⟩
      refine seq_mid (fun e s => e = ([some (scr ns), some (PV.loc l), some (PV.tup rows), some (PV.int at'), some (PV.int kind), some (PV.str name), some (PV.int ow), some (PV.tup (ints' ws)), some (PV.int oth), some (PV.loc s5.length), none] : PEnv) ∧ s = s5 ++ [.lst rows]) ?_ ?_
      · simp only [sat_ok, sat_bind, sat_v, sat_c, sat_bin, sat_un, sat_test, sat_truth, sat_and, sat_or, sat_not, sat_yes, sat_andv, sat_notv, sat_chain, sat_nil, sat_cons, sat_args, sat_call, sat_callX, sat_meth, sat_one, sat_oNone, sat_oSome, sat_sl, sat_tup, sat_lst, sat_loc, ss_nil, ss_seq, ss_set, ss_expr, ss_ret, ss_retN, ss_if, ss_tg, ss_par, ss_sub, ss_for, sat_comp, setTg, setTgs, wipeP, sizeLine_eq, List.map_cons, List.map_nil, List.length_cons, List.length_nil, List.cons_append, List.nil_append, List.set_cons_zero, List.set_cons_succ, List.getElem?_cons_zero, List.getElem?_cons_succ, Nat.reduceAdd, Nat.reduceSub, Nat.reduceLeDiff, List.reduceReplicate, Option.some.injEq, exists_eq_left', true_and, and_true, Nat.zero_add, o_addI, o_addS, o_addT, o_addL, o_subI, o_mulI, o_fdivI, o_modI, o_powI, o_negI, o_eqI, o_neI, o_eqS, o_neS, o_ltI, o_gtI, o_leI, o_geI, o_ltS, o_geS, o_inS, o_notInS, o_isN, o_isNotN, o_isT, o_isNotT, o_isS, o_isNotS, o_int, o_intB, o_abs, o_str, o_lenT, o_lenL, o_lenF, o_lenS, o_ixT, o_ixL, o_ixF, ixW_0, ixW_1, ixW_2, o_isStr, o_tupL, o_tupT, o_listT, o_listL, o_listLocT, o_gcd, o_bits, o_finF, o_finT, sat_iVal, sat_iEnum, sat_iRange1, sat_iRange2, o_itT, o_itL, o_itF, o_itS, o_enT, o_rng]
      rintro e s6 ⟨rfl, rfl⟩
      have g6 : Gr [l] st (s5 ++ [PO.lst rows]) := g5.trans .app
      have hs6 := hs5.gr (L := []) .app (by simp) (s := s5 ++ [PO.lst rows])
      have hp6 : (s5 ++ [PO.lst rows])[s5.length]? = some (.lst rows) := by simp
      have hl5 := hs5.lt
      have hlen5 := g5.len
      generalize hpp : s5.length = pp at *
      generalize s5 ++ [PO.lst rows] = s6 at *
      have npl : pp ∉ [l] := by simp; omega
      -- one place set
      have put : ∀ (xs : List PV) (s : Store) (i : Int) (y : PV), s[pp]? = some (.lst xs) → xs.length = rows.length → (∀ x ∈ xs, SRow c x) → y ∈ rows → 0 ≤ i → i < rows.length → SrcAt s l → Gr [l] st s →
          ∀ Q : Unit → Store → Prop, (∀ xs' s', s'[pp]? = some (.lst xs') → xs'.length = rows.length → (∀ x ∈ xs', SRow c x) → SrcAt s' l → Gr [l] st s' → Q () s') → Sat (pSet (.loc pp) (.int i) y s) Q := by
        intro xs s i y h1 h2 h3 h4 h5 h6 h7 h8 Q kq
        rw [o_set h1, ixN_in h5 (by omega)]
        have g : Gr [pp] s (s.set pp (.lst (xs.set i.toNat y))) := .set (by simp)
        refine kq (xs.set i.toNat y) _ (List.getElem?_set_self (lt_of_some h1)) (by simp [h2]) (fun x hx => ?_) (h7.gr g (by simp; omega)) ?_
        · rcases List.mem_or_eq_of_mem_set hx with q | q
          · exact h3 x q
          · rw [q]; exact hr y h4
        · refine Gr.cut (L := [l, pp]) (L' := [l]) ((h8.mono (by simp)).trans (g.mono (by simp))) ?_
          intro j hj hlt
          simp only [List.mem_cons, List.not_mem_nil, or_false] at hj ⊢
          omega
      refine seq_mid (fun e s => ∃ xs : List PV, e = ([some (scr ns), some (PV.loc l), some (PV.tup rows), some (PV.int at'), some (PV.int kind), some (PV.str name), some (PV.int ow), some (PV.tup (ints' ws)), some (PV.int oth), some (PV.loc pp), none] : PEnv) ∧ s[pp]? = some (.lst xs) ∧ xs.length = rows.length ∧ (∀ x ∈ xs, SRow c x) ∧ SrcAt s l ∧ Gr [l] st s) ?_ ?_
      · simp only [sat_ok, sat_bind, sat_v, sat_c, sat_bin, sat_un, sat_test, sat_truth, sat_and, sat_or, sat_not, sat_yes, sat_andv, sat_notv, sat_chain, sat_nil, sat_cons, sat_args, sat_call, sat_callX, sat_meth, sat_one, sat_oNone, sat_oSome, sat_sl, sat_tup, sat_lst, sat_loc, ss_nil, ss_seq, ss_set, ss_expr, ss_ret, ss_retN, ss_if, ss_tg, ss_par, ss_sub, ss_for, sat_comp, setTg, setTgs, wipeP, sizeLine_eq, List.map_cons, List.map_nil, List.length_cons, List.length_nil, List.cons_append, List.nil_append, List.set_cons_zero, List.set_cons_succ, List.getElem?_cons_zero, List.getElem?_cons_succ, Nat.reduceAdd, Nat.reduceSub, Nat.reduceLeDiff, List.reduceReplicate, Option.some.injEq, exists_eq_left', true_and, and_true, Nat.zero_add, o_addI, o_addS, o_addT, o_addL, o_subI, o_mulI, o_fdivI, o_modI, o_powI, o_negI, o_eqI, o_neI, o_eqS, o_neS, o_ltI, o_gtI, o_leI, o_geI, o_ltS, o_geS, o_inS, o_notInS, o_isN, o_isNotN, o_isT, o_isNotT, o_isS, o_isNotS, o_int, o_intB, o_abs, o_str, o_lenT, o_lenL, o_lenF, o_lenS, o_ixT, o_ixL, o_ixF, ixW_0, ixW_1, ixW_2, o_isStr, o_tupL, o_tupT, o_listT, o_listL, o_listLocT, o_gcd, o_bits, o_finF, o_finT, sat_iVal, sat_iEnum, sat_iRange1, sat_iRange2, o_itT, o_itL, o_itF, o_itS, o_enT, o_rng]
        refine draw_len o0 o1 fun y hy => ?_
        exact put rows s6 at' y hp6 rfl hr hy a0 a1 hs6 g6 _ fun xs' s' b1 b2 b3 b4 b5 => ⟨xs', b1, b2, b3, b4, b5⟩
      rintro e s7 ⟨xs, rfl, hx1, hx2, hx3, hx4, hx5⟩
      refine seq_mid (fun e s => ∃ xs : List PV, e = ([some (scr ns), some (PV.loc l), some (PV.tup rows), some (PV.int at'), some (PV.int kind), some (PV.str name), some (PV.int ow), some (PV.tup (ints' ws)), some (PV.int oth), some (PV.loc pp), none] : PEnv) ∧ s[pp]? = some (.lst xs) ∧ xs.length = rows.length ∧ (∀ x ∈ xs, SRow c x) ∧ SrcAt s l ∧ Gr [l] st s) ?_ ?_
      · simp only [sat_ok, sat_bind, sat_v, sat_c, sat_bin, sat_un, sat_test, sat_truth, sat_and, sat_or, sat_not, sat_yes, sat_andv, sat_notv, sat_chain, sat_nil, sat_cons, sat_args, sat_call, sat_callX, sat_meth, sat_one, sat_oNone, sat_oSome, sat_sl, sat_tup, sat_lst, sat_loc, ss_nil, ss_seq, ss_set, ss_expr, ss_ret, ss_retN, ss_if, ss_tg, ss_par, ss_sub, ss_for, sat_comp, setTg, setTgs, wipeP, sizeLine_eq, List.map_cons, List.map_nil, List.length_cons, List.length_nil, List.cons_append, List.nil_append, List.set_cons_zero, List.set_cons_succ, List.getElem?_cons_zero, List.getElem?_cons_succ, Nat.reduceAdd, Nat.reduceSub, Nat.reduceLeDiff, List.reduceReplicate, Option.some.injEq, exists_eq_left', true_and, and_true, Nat.zero_add, o_addI, o_addS, o_addT, o_addL, o_subI, o_mulI, o_fdivI, o_modI, o_powI, o_negI, o_eqI, o_neI, o_eqS, o_neS, o_ltI, o_gtI, o_leI, o_geI, o_ltS, o_geS, o_inS, o_notInS, o_isN, o_isNotN, o_isT, o_isNotT, o_isS, o_isNotS, o_int, o_intB, o_abs, o_str, o_lenT, o_lenL, o_lenF, o_lenS, o_ixT, o_ixL, o_ixF, ixW_0, ixW_1, ixW_2, o_isStr, o_tupL, o_tupT, o_listT, o_listL, o_listLocT, o_gcd, o_bits, o_finF, o_finT, sat_iVal, sat_iEnum, sat_iRange1, sat_iRange2, o_itT, o_itL, o_itF, o_itS, o_enT, o_rng]
        refine draw' hx4 (by decide) (by decide) fun r s8 _ _ hs8 g8 => ?_
        have hx8 := g8.at' hx1 npl
        simp only [sat_ok, sat_bind, sat_v, sat_c, sat_bin, sat_un, sat_test, sat_truth, sat_and, sat_or, sat_not, sat_yes, sat_andv, sat_notv, sat_chain, sat_nil, sat_cons, sat_args, sat_call, sat_callX, sat_meth, sat_one, sat_oNone, sat_oSome, sat_sl, sat_tup, sat_lst, sat_loc, ss_nil, ss_seq, ss_set, ss_expr, ss_ret, ss_retN, ss_if, ss_tg, ss_par, ss_sub, ss_for, sat_comp, setTg, setTgs, wipeP, sizeLine_eq, List.map_cons, List.map_nil, List.length_cons, List.length_nil, List.cons_append, List.nil_append, List.set_cons_zero, List.set_cons_succ, List.getElem?_cons_zero, List.getElem?_cons_succ, Nat.reduceAdd, Nat.reduceSub, Nat.reduceLeDiff, List.reduceReplicate, Option.some.injEq, exists_eq_left', true_and, and_true, Nat.zero_add, o_addI, o_addS, o_addT, o_addL, o_subI, o_mulI, o_fdivI, o_modI, o_powI, o_negI, o_eqI, o_neI, o_eqS, o_neS, o_ltI, o_gtI, o_leI, o_geI, o_ltS, o_geS, o_inS, o_notInS, o_isN, o_isNotN, o_isT, o_isNotT, o_isS, o_isNotS, o_int, o_intB, o_abs, o_str, o_lenT, o_lenL, o_lenF, o_lenS, o_ixT, o_ixL, o_ixF, ixW_0, ixW_1, ixW_2, o_isStr, o_tupL, o_tupT, o_listT, o_listL, o_listLocT, o_gcd, o_bits, o_finF, o_finT, sat_iVal, sat_iEnum, sat_iRange1, sat_iRange2, o_itT, o_itL, o_itF, o_itS, o_enT, o_rng]
        split
        · refine draw_len a0 a1 fun y hy => ?_
          exact put xs s8 oth y hx8 hx2 hx3 hy o0 o1 hs8 (hx5.trans g8) _ fun xs' s' b1 b2 b3 b4 b5 => ⟨xs', b1, b2, b3, b4, b5⟩
        · exact ⟨xs, hx8, hx2, hx3, hs8, hx5.trans g8⟩
      rintro e s8 ⟨xs, rfl, hx1, hx2, hx3, hx4, hx5⟩
      simp only [sat_ok, sat_bind, sat_v, sat_c, sat_bin, sat_un, sat_test, sat_truth, sat_and, sat_or, sat_not, sat_yes, sat_andv, sat_notv, sat_chain, sat_nil, sat_cons, sat_args, sat_call, sat_callX, sat_meth, sat_one, sat_oNone, sat_oSome, sat_sl, sat_tup, sat_lst, sat_loc, ss_nil, ss_seq, ss_set, ss_expr, ss_ret, ss_retN, ss_if, ss_tg, ss_par, ss_sub, ss_for, sat_comp, setTg, setTgs, wipeP, sizeLine_eq, List.map_cons, List.map_nil, List.length_cons, List.length_nil, List.cons_append, List.nil_append, List.set_cons_zero, List.set_cons_succ, List.getElem?_cons_zero, List.getElem?_cons_succ, Nat.reduceAdd, Nat.reduceSub, Nat.reduceLeDiff, List.reduceReplicate, Option.some.injEq, exists_eq_left', true_and, and_true, Nat.zero_add, o_tupP hx1]
      exact k xs s8 (by omega) (fun r m => (hx3 r m).mono (by omega)) hx4 hx5
    · rw [ss_nil]; exact ⟨rfl, rfl⟩
  rintro e s4 ⟨rfl, rfl⟩
  -- another owner
  refine seq_mid (fun e s => ∃ ow : Int, e = ([some (scr ns), some (PV.loc l), some (PV.tup rows), some (PV.int at'), some (PV.int kind), some (PV.str name), some (PV.int ow), some (PV.tup (ints' ws)), none, none, none] : PEnv) ∧ SrcAt s l ∧ Gr [l] st s) ?_ ?_
  · simp only [sat_ok, sat_bind, sat_v, sat_c, sat_bin, sat_un, sat_test, sat_truth, sat_and, sat_or, sat_not, sat_yes, sat_andv, sat_notv, sat_chain, sat_nil, sat_cons, sat_args, sat_call, sat_callX, sat_meth, sat_one, sat_oNone, sat_oSome, sat_sl, sat_tup, sat_lst, sat_loc, ss_nil, ss_seq, ss_set, ss_expr, ss_ret, ss_retN, ss_if, ss_tg, ss_par, ss_sub, ss_for, sat_comp, setTg, setTgs, wipeP, sizeLine_eq, List.map_cons, List.map_nil, List.length_cons, List.length_nil, List.cons_append, List.nil_append, List.set_cons_zero, List.set_cons_succ, List.getElem?_cons_zero, List.getElem?_cons_succ, Nat.reduceAdd, Nat.reduceSub, Nat.reduceLeDiff, List.reduceReplicate, Option.some.injEq, exists_eq_left', true_and, and_true, Nat.zero_add, o_addI, o_addS, o_addT, o_addL, o_subI, o_mulI, o_fdivI, o_modI, o_powI, o_negI, o_eqI, o_neI, o_eqS, o_neS, o_ltI, o_gtI, o_leI, o_geI, o_ltS, o_geS, o_inS, o_notInS, o_isN, o_isNotN, o_isT, o_isNotT, o_isS, o_isNotS, o_int, o_intB, o_abs, o_str, o_lenT, o_lenL, o_lenF, o_lenS, o_ixT, o_ixL, o_ixF, ixW_0, ixW_1, ixW_2, o_isStr, o_tupL, o_tupT, o_listT, o_listL, o_listLocT, o_gcd, o_bits, o_finF, o_finT, sat_iVal, sat_iEnum, sat_iRange1, sat_iRange2, o_itT, o_itL, o_itF, o_itS, o_enT, o_rng, Int.reduceLE, Int.reduceLT, nabs, Nat.reducePow, Nat.reduceLT, Int.reduceToNat, Int.reducePow, true_and, and_true, or_true, true_or, and_self, if_true, if_false, Bool.false_eq_true, decide_true, decide_false, not_false_eq_true, List.length_map]
    split
    · refine draw' hs4 (by decide) (by decide) fun r s5 c0 c1 hs5 g5 => ?_
      simp only [o_addI, o_addS, o_addT, o_addL, o_subI, o_mulI, o_fdivI, o_modI, o_powI, o_negI, o_eqI, o_neI, o_eqS, o_neS, o_ltI, o_gtI, o_leI, o_geI, o_ltS, o_geS, o_inS, o_notInS, o_isN, o_isNotN, o_isT, o_isNotT, o_isS, o_isNotS, o_int, o_intB, o_abs, o_str, o_lenT, o_lenL, o_lenF, o_lenS, o_ixT, o_ixL, o_ixF, ixW_0, ixW_1, ixW_2, o_isStr, o_tupL, o_tupT, o_listT, o_listL, o_listLocT, o_gcd, o_bits, o_finF, o_finT, sat_iVal, sat_iEnum, sat_iRange1, sat_iRange2, o_itT, o_itL, o_itF, o_itS, o_enT, o_rng]
      refine draw_len c0 (by show r < 6; exact c1) fun y hy => ?_
      obtain ⟨z, rfl⟩ : ∃ z : Int, y = .int z := by
        simp only [List.mem_cons, List.not_mem_nil, or_false] at hy
        rcases hy with rfl | rfl | rfl | rfl | rfl | rfl <;> exact ⟨_, rfl⟩
      exact ⟨z, rfl, hs5, g4.trans g5⟩
    · exact ⟨ow, rfl, hs4, g4⟩
  rintro e s5 ⟨ow, rfl, hs5, g5⟩
  -- other weights
  refine seq_mid (fun e s => ∃ (ws : List Int) (r10 : Option PV), e = ([some (scr ns), some (PV.loc l), some (PV.tup rows), some (PV.int at'), some (PV.int kind), some (PV.str name), some (PV.int ow), some (PV.tup (ints' ws)), none, none, r10] : PEnv) ∧ ws.length ≤ c ∧ (∀ w ∈ ws, w.natAbs < 2 ^ 200) ∧ SrcAt s l ∧ Gr [l] st s) ?_ ?_
  · rw [ss_if]
    simp only [sat_test, sat_bin, sat_v, sat_c, List.getElem?_cons_zero, List.getElem?_cons_succ, o_eqI, sat_truth]
    split
    · simp only [sat_ok, sat_bind, sat_v, sat_c, sat_bin, sat_un, sat_test, sat_truth, sat_and, sat_or, sat_not, sat_yes, sat_andv, sat_notv, sat_chain, sat_nil, sat_cons, sat_args, sat_call, sat_callX, sat_meth, sat_one, sat_oNone, sat_oSome, sat_sl, sat_tup, sat_lst, sat_loc, ss_nil, ss_seq, ss_set, ss_expr, ss_ret, ss_retN, ss_if, ss_tg, ss_par, ss_sub, ss_for, sat_comp, setTg, setTgs, wipeP, sizeLine_eq, List.map_cons, List.map_nil, List.length_cons, List.length_nil, List.cons_append, List.nil_append, List.set_cons_zero, List.set_cons_succ, List.getElem?_cons_zero, List.getElem?_cons_succ, Nat.reduceAdd, Nat.reduceSub, Nat.reduceLeDiff, List.reduceReplicate, Option.some.injEq, exists_eq_left', true_and, and_true, Nat.zero_add, o_addI, o_addS, o_addT, o_addL, o_subI, o_mulI, o_fdivI, o_modI, o_powI, o_negI, o_eqI, o_neI, o_eqS, o_neS, o_ltI, o_gtI, o_leI, o_geI, o_ltS, o_geS, o_inS, o_notInS, o_isN, o_isNotN, o_isT, o_isNotT, o_isS, o_isNotS, o_int, o_intB, o_abs, o_str, o_lenT, o_lenL, o_lenF, o_lenS, o_ixT, o_ixL, o_ixF, ixW_0, ixW_1, ixW_2, o_isStr, o_tupL, o_tupT, o_listT, o_listL, o_listLocT, o_gcd, o_bits, o_finF, o_finT, sat_iVal, sat_iEnum, sat_iRange1, sat_iRange2, o_itT, o_itL, o_itF, o_itS, o_enT, o_rng, Int.reduceLE, Int.reduceLT, nabs, Nat.reducePow, Nat.reduceLT, Int.reduceToNat, Int.reducePow, true_and, and_true, or_true, true_or, and_self, if_true, if_false, Bool.false_eq_true, decide_true, decide_false, not_false_eq_true, List.length_map, o_mulT]
      refine ⟨by simp, by simp, ?_⟩
      refine draw' hs5 (by decide) (by decide) fun r s6 c0 c1 hs6 g6 => ?_
      simp only [o_addI, o_addS, o_addT, o_addL, o_subI, o_mulI, o_fdivI, o_modI, o_powI, o_negI, o_eqI, o_neI, o_eqS, o_neS, o_ltI, o_gtI, o_leI, o_geI, o_ltS, o_geS, o_inS, o_notInS, o_isN, o_isNotN, o_isT, o_isNotT, o_isS, o_isNotS, o_int, o_intB, o_abs, o_str, o_lenT, o_lenL, o_lenF, o_lenS, o_ixT, o_ixL, o_ixF, ixW_0, ixW_1, ixW_2, o_isStr, o_tupL, o_tupT, o_listT, o_listL, o_listLocT, o_gcd, o_bits, o_finF, o_finT, sat_iVal, sat_iEnum, sat_iRange1, sat_iRange2, o_itT, o_itL, o_itF, o_itS, o_enT, o_rng]
      refine draw_len c0 (by show r < 13; exact c1) fun y hy => ?_
      have fin : ∀ ws' : List Int, ws'.length ≤ 65 → (∀ w ∈ ws', w.natAbs < 2 ^ 200) → y = .tup (ints' ws') → ∃ ws : List Int, y = .tup (ints' ws) ∧ ws.length ≤ 65 ∧ ∀ w ∈ ws, w.natAbs < 2 ^ 200 := fun ws' h1 h2 h3 => ⟨ws', h3, h1, h2⟩
      obtain ⟨ws', rfl, h1, h2⟩ : ∃ ws : List Int, y = .tup (ints' ws) ∧ ws.length ≤ 65 ∧ ∀ w ∈ ws, w.natAbs < 2 ^ 200 := by
        simp only [List.mem_cons, List.not_mem_nil, or_false] at hy
        rcases hy with h | h | h | h | h | h | h | h | h | h | h | h | h
        · exact fin [] (by decide) (by decide +kernel) h
        · exact fin [0] (by decide) (by decide +kernel) h
        · exact fin [2] (by decide) (by decide +kernel) h
        · exact fin [2, 2] (by decide) (by decide +kernel) h
        · exact fin [-1, 1] (by decide) (by decide +kernel) h
        · exact fin [1, 0] (by decide) (by decide +kernel) h
        · exact fin [1, 2] (by decide) (by decide +kernel) h
        · exact fin [6, 10, 15] (by decide) (by decide +kernel) h
        · exact fin (List.replicate 65 1) (by decide) (by decide +kernel) (by rw [h]; rfl)
        · exact fin (List.replicate 64 1) (by decide) (by decide +kernel) (by rw [h]; rfl)
        · exact fin [3, 9] (by decide) (by decide +kernel) h
        · exact fin [1000000000000000000000000000000000000000, 3 * 1000000000000000000000000000000000000000] (by decide) (by decide +kernel) h
        · exact fin [1000000000000000000000000000000000000000, 1000000000000000000000000000000000000000 + 1] (by decide) (by decide +kernel) h
      exact ⟨ws', _, rfl, by omega, h2, hs6, g5.trans g6⟩
    · rw [ss_nil]; exact ⟨ws, none, rfl, hw, hwb, hs5, g5⟩
  rintro e s6 ⟨ws, r10, rfl, hw, hwb, hs6, g6⟩
  refine seq_mid (fun e s => ∃ ws : List Int, e = ([some (scr ns), some (PV.loc l), some (PV.tup rows), some (PV.int at'), some (PV.int kind), some (PV.str name), some (PV.int ow), some (PV.tup (ints' ws)), none, none, r10] : PEnv) ∧ ws.length ≤ c + 1 ∧ (∀ w ∈ ws, w.natAbs < 2 ^ 200) ∧ SrcAt s l ∧ Gr [l] st s) ?_ ?_
  · simp only [sat_ok, sat_bind, sat_v, sat_c, sat_bin, sat_un, sat_test, sat_truth, sat_and, sat_or, sat_not, sat_yes, sat_andv, sat_notv, sat_chain, sat_nil, sat_cons, sat_args, sat_call, sat_callX, sat_meth, sat_one, sat_oNone, sat_oSome, sat_sl, sat_tup, sat_lst, sat_loc, ss_nil, ss_seq, ss_set, ss_expr, ss_ret, ss_retN, ss_if, ss_tg, ss_par, ss_sub, ss_for, sat_comp, setTg, setTgs, wipeP, sizeLine_eq, List.map_cons, List.map_nil, List.length_cons, List.length_nil, List.cons_append, List.nil_append, List.set_cons_zero, List.set_cons_succ, List.getElem?_cons_zero, List.getElem?_cons_succ, Nat.reduceAdd, Nat.reduceSub, Nat.reduceLeDiff, List.reduceReplicate, Option.some.injEq, exists_eq_left', true_and, and_true, Nat.zero_add, o_addI, o_addS, o_addT, o_addL, o_subI, o_mulI, o_fdivI, o_modI, o_powI, o_negI, o_eqI, o_neI, o_eqS, o_neS, o_ltI, o_gtI, o_leI, o_geI, o_ltS, o_geS, o_inS, o_notInS, o_isN, o_isNotN, o_isT, o_isNotT, o_isS, o_isNotS, o_int, o_intB, o_abs, o_str, o_lenT, o_lenL, o_lenF, o_lenS, o_ixT, o_ixL, o_ixF, ixW_0, ixW_1, ixW_2, o_isStr, o_tupL, o_tupT, o_listT, o_listL, o_listLocT, o_gcd, o_bits, o_finF, o_finT, sat_iVal, sat_iEnum, sat_iRange1, sat_iRange2, o_itT, o_itL, o_itF, o_itS, o_enT, o_rng]
    split
    · refine draw' hs6 (by decide) (by decide) fun r s7 c0 c1 hs7 g7 => ?_
      simp only [o_addI, o_addS, o_addT, o_addL, o_subI, o_mulI, o_fdivI, o_modI, o_powI, o_negI, o_eqI, o_neI, o_eqS, o_neS, o_ltI, o_gtI, o_leI, o_geI, o_ltS, o_geS, o_inS, o_notInS, o_isN, o_isNotN, o_isT, o_isNotT, o_isS, o_isNotS, o_int, o_intB, o_abs, o_str, o_lenT, o_lenL, o_lenF, o_lenS, o_ixT, o_ixL, o_ixF, ixW_0, ixW_1, ixW_2, o_isStr, o_tupL, o_tupT, o_listT, o_listL, o_listLocT, o_gcd, o_bits, o_finF, o_finT, sat_iVal, sat_iEnum, sat_iRange1, sat_iRange2, o_itT, o_itL, o_itF, o_itS, o_enT, o_rng]
      refine ⟨by rw [List.length_map]; omega, ws ++ [1 + r], by simp, by simp; omega, fun w m => ?_, hs7, g6.trans g7⟩
      rcases List.mem_append.mp m with q | q
      · exact hwb w q
      · rw [List.mem_singleton.mp q]; exact (mod1_small (by omega) (by omega)).2
    · exact ⟨ws, rfl, by omega, hwb, hs6, g6⟩
  rintro e s7 ⟨ws, rfl, hw, hwb, hs7, g7⟩
  simp only [sat_ok, sat_bind, sat_v, sat_c, sat_bin, sat_un, sat_test, sat_truth, sat_and, sat_or, sat_not, sat_yes, sat_andv, sat_notv, sat_chain, sat_nil, sat_cons, sat_args, sat_call, sat_callX, sat_meth, sat_one, sat_oNone, sat_oSome, sat_sl, sat_tup, sat_lst, sat_loc, ss_nil, ss_seq, ss_set, ss_expr, ss_ret, ss_retN, ss_if, ss_tg, ss_par, ss_sub, ss_for, sat_comp, setTg, setTgs, wipeP, sizeLine_eq, List.map_cons, List.map_nil, List.length_cons, List.length_nil, List.cons_append, List.nil_append, List.set_cons_zero, List.set_cons_succ, List.getElem?_cons_zero, List.getElem?_cons_succ, Nat.reduceAdd, Nat.reduceSub, Nat.reduceLeDiff, List.reduceReplicate, Option.some.injEq, exists_eq_left', true_and, and_true, Nat.zero_add, o_addI, o_addS, o_addT, o_addL, o_subI, o_mulI, o_fdivI, o_modI, o_powI, o_negI, o_eqI, o_neI, o_eqS, o_neS, o_ltI, o_gtI, o_leI, o_geI, o_ltS, o_geS, o_inS, o_notInS, o_isN, o_isNotN, o_isT, o_isNotT, o_isS, o_isNotS, o_int, o_intB, o_abs, o_str, o_lenT, o_lenL, o_lenF, o_lenS, o_ixT, o_ixL, o_ixF, ixW_0, ixW_1, ixW_2, o_isStr, o_tupL, o_tupT, o_listT, o_listL, o_listLocT, o_gcd, o_bits, o_finF, o_finT, sat_iVal, sat_iEnum, sat_iRange1, sat_iRange2, o_itT, o_itL, o_itF, o_itS, o_enT, o_rng, o_slT]
  have l1 := cutP_len (xs := rows) (lo := none) (hi := some at')
  have l2 := cutP_len (xs := rows) (lo := some (at' + 1)) (hi := none)
  refine ⟨by omega, by simp; omega, ?_⟩
  refine k _ s7 (by simp; omega) (fun r m => ?_) hs7 g7
  rcases List.mem_append.mp m with q | q
  · rcases List.mem_append.mp q with q | q
    · exact hr' r (cutP_mem q)
    · rw [List.mem_singleton.mp q]
      exact ⟨name, ow, ws, rfl, hn, hw, hwb⟩
  · exact hr' r (cutP_mem q)
end PL
/-! PL, part y: the tree spoilt. -/
namespace PL
open PySem PySem.Spec PyProof.Rows L2
theorem lenq : ("q" : Str).length = 1 := by decide +kernel
theorem spoilt_tree_ok {ns : List Int} {l m c : Nat} {rowsV : PV} (hc : c ≤ 500) (nlm : l ≠ m) : ∀ (n d : Nat) (tree : PV) (us : List Str) (st : Store) (Q : PV → Store → Prop),
    TreeOk c d tree → d < n → us.length + d ≤ 800 → (∀ u ∈ us, u.length ≤ 60) → SrcAt st l → Room st m →
    (∀ v s, TreeOk (2 * c + 2) (d + 1) v → SrcAt s l → Room s m → Gr [l, m] st s → Q v s) →
    Sat (fuelF 9 f_law_spoilt_tree n [scr ns, .loc l, rowsV, tree, .lst (us.map .str), .loc m] st) Q
  | 0, d, tree, us, st, Q, _, hn, _, _, _, _, _ => absurd hn (Nat.not_lt_zero _)
  | n + 1, d, tree, us, st, Q, ht, hn, hul, hus, hs, hm, k => by
    obtain ⟨r0, hr0⟩ := hm
    have hml := lt_of_some hr0
    have hT : TreeOk (2 * c + 2) d tree := ht.mono (by omega) (Nat.le_refl _)
    refine sat_body ?_
    unfold f_law_spoilt_tree
    simp only [List.map_cons, List.map_nil, List.length_cons, List.length_nil, Nat.reduceAdd, Nat.reduceSub, List.reduceReplicate, List.cons_append, List.nil_append]
    refine seq_mid (fun e s => e = ([some (scr ns), some (PV.loc l), some rowsV, some (tree), some (PV.lst (List.map PV.str us)), some (PV.loc m), none, none, none] : PEnv) ∧ SrcAt s l ∧ Room s m ∧ Gr [l, m] st s) ?_ ?_
    · simp only [sat_ok, sat_bind, sat_v, sat_c, sat_bin, sat_un, sat_test, sat_truth, sat_and, sat_or, sat_not, sat_yes, sat_andv, sat_notv, sat_chain, sat_nil, sat_cons, sat_args, sat_call, sat_callX, sat_meth, sat_one, sat_oNone, sat_oSome, sat_sl, sat_tup, sat_lst, sat_loc, ss_nil, ss_seq, ss_set, ss_expr, ss_ret, ss_retN, ss_if, ss_tg, ss_par, ss_sub, ss_for, sat_comp, setTg, setTgs, wipeP, sizeLine_eq, List.map_cons, List.map_nil, List.length_cons, List.length_nil, List.cons_append, List.nil_append, List.set_cons_zero, List.set_cons_succ, List.getElem?_cons_zero, List.getElem?_cons_succ, Nat.reduceAdd, Nat.reduceSub, Nat.reduceLeDiff, List.reduceReplicate, Option.some.injEq, exists_eq_left', true_and, and_true, Nat.zero_add, o_addI, o_addS, o_addT, o_addL, o_subI, o_mulI, o_fdivI, o_modI, o_powI, o_negI, o_eqI, o_neI, o_eqS, o_neS, o_ltI, o_gtI, o_leI, o_geI, o_ltS, o_geS, o_inS, o_notInS, o_isN, o_isNotN, o_isT, o_isNotT, o_isS, o_isNotS, o_int, o_intB, o_abs, o_str, o_lenT, o_lenL, o_lenF, o_lenS, o_ixT, o_ixL, o_ixF, ixW_0, ixW_1, ixW_2, o_isStr, o_tupL, o_tupT, o_listT, o_listL, o_listLocT, o_gcd, o_bits, o_finF, o_finT, sat_iVal, sat_iEnum, sat_iRange1, sat_iRange2, o_itT, o_itL, o_itF, o_itS, o_enT, o_rng, o_ixP hr0, o_set hr0, ixN1_0]
      have g : Gr [m] st (st.set m (.lst [.int (r0 - 1)])) := .set (by simp)
      exact ⟨hs.gr g (by simpa using nlm), ⟨_, List.getElem?_set_self hml⟩, g.mono (by simp)⟩
    rintro e s1 ⟨rfl, hs1, hm1, g1⟩
    -- the place of the fault
    refine seq_mid (fun e s => e = ([some (scr ns), some (PV.loc l), some rowsV, some (tree), some (PV.lst (List.map PV.str us)), some (PV.loc m), none, none, none] : PEnv) ∧ s = s1) ?_ ?_
    · obtain ⟨r1, hr1⟩ := hm1
      rw [ss_if]
      simp only [sat_test, sat_bin, sat_v, sat_c, List.getElem?_cons_zero, List.getElem?_cons_succ, o_ixP hr1, ixW_0, o_eqI, sat_truth]
      split
      · refine seq_mid (fun e s => ∃ kind : Int, e = ([some (scr ns), some (PV.loc l), some rowsV, some (tree), some (PV.lst (List.map PV.str us)), some (PV.loc m), none, some (PV.int kind), none] : PEnv) ∧ SrcAt s l ∧ Room s m ∧ Gr [l, m] st s) ?_ ?_
        · simp only [sat_ok, sat_bind, sat_v, sat_c, sat_bin, sat_un, sat_test, sat_truth, sat_and, sat_or, sat_not, sat_yes, sat_andv, sat_notv, sat_chain, sat_nil, sat_cons, sat_args, sat_call, sat_callX, sat_meth, sat_one, sat_oNone, sat_oSome, sat_sl, sat_tup, sat_lst, sat_loc, ss_nil, ss_seq, ss_set, ss_expr, ss_ret, ss_retN, ss_if, ss_tg, ss_par, ss_sub, ss_for, sat_comp, setTg, setTgs, wipeP, sizeLine_eq, List.map_cons, List.map_nil, List.length_cons, List.length_nil, List.cons_append, List.nil_append, List.set_cons_zero, List.set_cons_succ, List.getElem?_cons_zero, List.getElem?_cons_succ, Nat.reduceAdd, Nat.reduceSub, Nat.reduceLeDiff, List.reduceReplicate, Option.some.injEq, exists_eq_left', true_and, and_true, Nat.zero_add, o_addI, o_addS, o_addT, o_addL, o_subI, o_mulI, o_fdivI, o_modI, o_powI, o_negI, o_eqI, o_neI, o_eqS, o_neS, o_ltI, o_gtI, o_leI, o_geI, o_ltS, o_geS, o_inS, o_notInS, o_isN, o_isNotN, o_isT, o_isNotT, o_isS, o_isNotS, o_int, o_intB, o_abs, o_str, o_lenT, o_lenL, o_lenF, o_lenS, o_ixT, o_ixL, o_ixF, ixW_0, ixW_1, ixW_2, o_isStr, o_tupL, o_tupT, o_listT, o_listL, o_listLocT, o_gcd, o_bits, o_finF, o_finT, sat_iVal, sat_iEnum, sat_iRange1, sat_iRange2, o_itT, o_itL, o_itF, o_itS, o_enT, o_rng]
          exact draw' hs1 (by decide) (by decide) fun r s _ _ hs2 g2 => ⟨r, rfl, hs2, Room.gr ⟨r1, hr1⟩ g2 (by simpa using Ne.symm nlm), g1.trans (g2.mono (by simp))⟩
        rintro e s2 ⟨kind, rfl, hs2, hm2, g2⟩
        have last : ∀ s2, SrcAt s2 l → Room s2 m → Gr [l, m] st s2 → SatS ((sSeq (sIf (tAndM (eTest (eBin pEq (eVar 7) (eC (.int 3)))) (eTest (eBin pGt (eArgs (one pLen) (aCons (eVar 4) aNil)) (eC (.int 0))))) (sRet (eArgs mkTup (aCons (eBin pIx (eVar 4) (eCall 3 m_law_draw (aCons (eVar 0) (aCons (eVar 1) (aCons (eArgs (one pLen) (aCons (eVar 4) aNil)) aNil))))) (aCons (eArgs mkTup (aCons (eVar 3) (aCons (eVar 3) aNil))) aNil)))) sNil) (sRet (eCall 2 m_law_bad_name (aCons (eVar 0) (aCons (eVar 1) aNil))))) ([some (scr ns), some (PV.loc l), some rowsV, some (tree), some (PV.lst (List.map PV.str us)), some (PV.loc m), none, some (PV.int kind), none] : PEnv) s2) (fun e s => e = ([some (scr ns), some (PV.loc l), some rowsV, some (tree), some (PV.lst (List.map PV.str us)), some (PV.loc m), none, none, none] : PEnv) ∧ s = s1) Q := by
          intro s2 b1 b2 b3
          refine seq_mid (fun e s => e = ([some (scr ns), some (PV.loc l), some rowsV, some (tree), some (PV.lst (List.map PV.str us)), some (PV.loc m), none, some (PV.int kind), none] : PEnv) ∧ s = s2) ?_ ?_
          · simp only [sat_ok, sat_bind, sat_v, sat_c, sat_bin, sat_un, sat_test, sat_truth, sat_and, sat_or, sat_not, sat_yes, sat_andv, sat_notv, sat_chain, sat_nil, sat_cons, sat_args, sat_call, sat_callX, sat_meth, sat_one, sat_oNone, sat_oSome, sat_sl, sat_tup, sat_lst, sat_loc, ss_nil, ss_seq, ss_set, ss_expr, ss_ret, ss_retN, ss_if, ss_tg, ss_par, ss_sub, ss_for, sat_comp, setTg, setTgs, wipeP, sizeLine_eq, List.map_cons, List.map_nil, List.length_cons, List.length_nil, List.cons_append, List.nil_append, List.set_cons_zero, List.set_cons_succ, List.getElem?_cons_zero, List.getElem?_cons_succ, Nat.reduceAdd, Nat.reduceSub, Nat.reduceLeDiff, List.reduceReplicate, Option.some.injEq, exists_eq_left', true_and, and_true, Nat.zero_add, o_addI, o_addS, o_addT, o_addL, o_subI, o_mulI, o_fdivI, o_modI, o_powI, o_negI, o_eqI, o_neI, o_eqS, o_neS, o_ltI, o_gtI, o_leI, o_geI, o_ltS, o_geS, o_inS, o_notInS, o_isN, o_isNotN, o_isT, o_isNotT, o_isS, o_isNotS, o_int, o_intB, o_abs, o_str, o_lenT, o_lenL, o_lenF, o_lenS, o_ixT, o_ixL, o_ixF, ixW_0, ixW_1, ixW_2, o_isStr, o_tupL, o_tupT, o_listT, o_listL, o_listLocT, o_gcd, o_bits, o_finF, o_finT, sat_iVal, sat_iEnum, sat_iRange1, sat_iRange2, o_itT, o_itL, o_itF, o_itS, o_enT, o_rng, Int.reduceLE, Int.reduceLT, nabs, Nat.reducePow, Nat.reduceLT, Int.reduceToNat, Int.reducePow, true_and, and_true, or_true, true_or, and_self, if_true, if_false, Bool.false_eq_true, decide_true, decide_false, not_false_eq_true, List.length_map]
            split
            · split
              · rename_i h
                have h : 0 < us.length := by simpa using h
                refine draw' b1 (by omega) (log2_k (n := 1000) (by omega) (by omega)) fun r s3 c0 c1 hs3 g3 => ?_
                simp only [o_addI, o_addS, o_addT, o_addL, o_subI, o_mulI, o_fdivI, o_modI, o_powI, o_negI, o_eqI, o_neI, o_eqS, o_neS, o_ltI, o_gtI, o_leI, o_geI, o_ltS, o_geS, o_inS, o_notInS, o_isN, o_isNotN, o_isT, o_isNotT, o_isS, o_isNotS, o_int, o_intB, o_abs, o_str, o_lenT, o_lenL, o_lenF, o_lenS, o_ixT, o_ixL, o_ixF, ixW_0, ixW_1, ixW_2, o_isStr, o_tupL, o_tupT, o_listT, o_listL, o_listLocT, o_gcd, o_bits, o_finF, o_finT, sat_iVal, sat_iEnum, sat_iRange1, sat_iRange2, o_itT, o_itL, o_itF, o_itS, o_enT, o_rng]
                refine draw_len c0 (by rw [List.length_map]; exact c1) fun y hy => ?_
                obtain ⟨u, mu, rfl⟩ := List.mem_map.mp hy
                refine k _ s3 (.node (hus u mu) (by show 2 ≤ 2 * c + 2; omega) fun x hx => ?_) hs3 (b2.gr g3 (by simpa using Ne.symm nlm)) (b3.trans (g3.mono (by simp)))
                simp only [List.mem_cons, List.not_mem_nil, or_false, or_self] at hx
                rw [hx]; exact hT
              · first | trivial | exact ⟨rfl, rfl⟩
            · first | trivial | exact ⟨rfl, rfl⟩ | (split <;> first | trivial | exact ⟨rfl, rfl⟩ | contradiction)
          rintro e s2 ⟨rfl, rfl⟩
          simp only [sat_ok, sat_bind, sat_v, sat_c, sat_bin, sat_un, sat_test, sat_truth, sat_and, sat_or, sat_not, sat_yes, sat_andv, sat_notv, sat_chain, sat_nil, sat_cons, sat_args, sat_call, sat_callX, sat_meth, sat_one, sat_oNone, sat_oSome, sat_sl, sat_tup, sat_lst, sat_loc, ss_nil, ss_seq, ss_set, ss_expr, ss_ret, ss_retN, ss_if, ss_tg, ss_par, ss_sub, ss_for, sat_comp, setTg, setTgs, wipeP, sizeLine_eq, List.map_cons, List.map_nil, List.length_cons, List.length_nil, List.cons_append, List.nil_append, List.set_cons_zero, List.set_cons_succ, List.getElem?_cons_zero, List.getElem?_cons_succ, Nat.reduceAdd, Nat.reduceSub, Nat.reduceLeDiff, List.reduceReplicate, Option.some.injEq, exists_eq_left', true_and, and_true, Nat.zero_add]
          exact bad_ok b1 fun z s hz h1 h2 => k _ s (.leaf (by omega)) h1 (b2.gr h2 (by simpa using Ne.symm nlm)) (b3.trans (h2.mono (by simp)))
        cases ht with
        | @leaf d z hz =>
          refine seq_mid (fun e s => e = ([some (scr ns), some (PV.loc l), some rowsV, some (PV.str z), some (PV.lst (List.map PV.str us)), some (PV.loc m), none, some (PV.int kind), none] : PEnv) ∧ s = s2) ?_ ?_
          · simp only [sat_ok, sat_bind, sat_v, sat_c, sat_bin, sat_un, sat_test, sat_truth, sat_and, sat_or, sat_not, sat_yes, sat_andv, sat_notv, sat_chain, sat_nil, sat_cons, sat_args, sat_call, sat_callX, sat_meth, sat_one, sat_oNone, sat_oSome, sat_sl, sat_tup, sat_lst, sat_loc, ss_nil, ss_seq, ss_set, ss_expr, ss_ret, ss_retN, ss_if, ss_tg, ss_par, ss_sub, ss_for, sat_comp, setTg, setTgs, wipeP, sizeLine_eq, List.map_cons, List.map_nil, List.length_cons, List.length_nil, List.cons_append, List.nil_append, List.set_cons_zero, List.set_cons_succ, List.getElem?_cons_zero, List.getElem?_cons_succ, Nat.reduceAdd, Nat.reduceSub, Nat.reduceLeDiff, List.reduceReplicate, Option.some.injEq, exists_eq_left', true_and, and_true, Nat.zero_add, o_addI, o_addS, o_addT, o_addL, o_subI, o_mulI, o_fdivI, o_modI, o_powI, o_negI, o_eqI, o_neI, o_eqS, o_neS, o_ltI, o_gtI, o_leI, o_geI, o_ltS, o_geS, o_inS, o_notInS, o_isN, o_isNotN, o_isT, o_isNotT, o_isS, o_isNotS, o_int, o_intB, o_abs, o_str, o_lenT, o_lenL, o_lenF, o_lenS, o_ixT, o_ixL, o_ixF, ixW_0, ixW_1, ixW_2, o_isStr, o_tupL, o_tupT, o_listT, o_listL, o_listLocT, o_gcd, o_bits, o_finF, o_finT, sat_iVal, sat_iEnum, sat_iRange1, sat_iRange2, o_itT, o_itL, o_itF, o_itS, o_enT, o_rng, isi_s, Int.reduceLE, Int.reduceLT, nabs, Nat.reducePow, Nat.reduceLT, Int.reduceToNat, Int.reducePow, true_and, and_true, or_true, true_or, and_self, if_true, if_false, Bool.false_eq_true, decide_true, decide_false, not_false_eq_true, List.length_map, Bool.not_true]
            split <;> first | trivial | exact ⟨rfl, rfl⟩
          rintro e s2 ⟨rfl, rfl⟩
          refine seq_mid (fun e s => e = ([some (scr ns), some (PV.loc l), some rowsV, some (PV.str z), some (PV.lst (List.map PV.str us)), some (PV.loc m), none, some (PV.int kind), none] : PEnv) ∧ s = s2) ?_ ?_
          · simp only [sat_ok, sat_bind, sat_v, sat_c, sat_bin, sat_un, sat_test, sat_truth, sat_and, sat_or, sat_not, sat_yes, sat_andv, sat_notv, sat_chain, sat_nil, sat_cons, sat_args, sat_call, sat_callX, sat_meth, sat_one, sat_oNone, sat_oSome, sat_sl, sat_tup, sat_lst, sat_loc, ss_nil, ss_seq, ss_set, ss_expr, ss_ret, ss_retN, ss_if, ss_tg, ss_par, ss_sub, ss_for, sat_comp, setTg, setTgs, wipeP, sizeLine_eq, List.map_cons, List.map_nil, List.length_cons, List.length_nil, List.cons_append, List.nil_append, List.set_cons_zero, List.set_cons_succ, List.getElem?_cons_zero, List.getElem?_cons_succ, Nat.reduceAdd, Nat.reduceSub, Nat.reduceLeDiff, List.reduceReplicate, Option.some.injEq, exists_eq_left', true_and, and_true, Nat.zero_add, o_addI, o_addS, o_addT, o_addL, o_subI, o_mulI, o_fdivI, o_modI, o_powI, o_negI, o_eqI, o_neI, o_eqS, o_neS, o_ltI, o_gtI, o_leI, o_geI, o_ltS, o_geS, o_inS, o_notInS, o_isN, o_isNotN, o_isT, o_isNotT, o_isS, o_isNotS, o_int, o_intB, o_abs, o_str, o_lenT, o_lenL, o_lenF, o_lenS, o_ixT, o_ixL, o_ixF, ixW_0, ixW_1, ixW_2, o_isStr, o_tupL, o_tupT, o_listT, o_listL, o_listLocT, o_gcd, o_bits, o_finF, o_finT, sat_iVal, sat_iEnum, sat_iRange1, sat_iRange2, o_itT, o_itL, o_itF, o_itS, o_enT, o_rng, isi_s, Int.reduceLE, Int.reduceLT, nabs, Nat.reducePow, Nat.reduceLT, Int.reduceToNat, Int.reducePow, true_and, and_true, or_true, true_or, and_self, if_true, if_false, Bool.false_eq_true, decide_true, decide_false, not_false_eq_true, List.length_map, Bool.not_true]
            split <;> first | trivial | exact ⟨rfl, rfl⟩
          rintro e s2 ⟨rfl, rfl⟩
          refine seq_mid (fun e s => e = ([some (scr ns), some (PV.loc l), some rowsV, some (PV.str z), some (PV.lst (List.map PV.str us)), some (PV.loc m), none, some (PV.int kind), none] : PEnv) ∧ s = s2) ?_ ?_
          · simp only [sat_ok, sat_bind, sat_v, sat_c, sat_bin, sat_un, sat_test, sat_truth, sat_and, sat_or, sat_not, sat_yes, sat_andv, sat_notv, sat_chain, sat_nil, sat_cons, sat_args, sat_call, sat_callX, sat_meth, sat_one, sat_oNone, sat_oSome, sat_sl, sat_tup, sat_lst, sat_loc, ss_nil, ss_seq, ss_set, ss_expr, ss_ret, ss_retN, ss_if, ss_tg, ss_par, ss_sub, ss_for, sat_comp, setTg, setTgs, wipeP, sizeLine_eq, List.map_cons, List.map_nil, List.length_cons, List.length_nil, List.cons_append, List.nil_append, List.set_cons_zero, List.set_cons_succ, List.getElem?_cons_zero, List.getElem?_cons_succ, Nat.reduceAdd, Nat.reduceSub, Nat.reduceLeDiff, List.reduceReplicate, Option.some.injEq, exists_eq_left', true_and, and_true, Nat.zero_add, o_addI, o_addS, o_addT, o_addL, o_subI, o_mulI, o_fdivI, o_modI, o_powI, o_negI, o_eqI, o_neI, o_eqS, o_neS, o_ltI, o_gtI, o_leI, o_geI, o_ltS, o_geS, o_inS, o_notInS, o_isN, o_isNotN, o_isT, o_isNotT, o_isS, o_isNotS, o_int, o_intB, o_abs, o_str, o_lenT, o_lenL, o_lenF, o_lenS, o_ixT, o_ixL, o_ixF, ixW_0, ixW_1, ixW_2, o_isStr, o_tupL, o_tupT, o_listT, o_listL, o_listLocT, o_gcd, o_bits, o_finF, o_finT, sat_iVal, sat_iEnum, sat_iRange1, sat_iRange2, o_itT, o_itL, o_itF, o_itS, o_enT, o_rng, isi_s, Int.reduceLE, Int.reduceLT, nabs, Nat.reducePow, Nat.reduceLT, Int.reduceToNat, Int.reducePow, true_and, and_true, or_true, true_or, and_self, if_true, if_false, Bool.false_eq_true, decide_true, decide_false, not_false_eq_true, List.length_map, Bool.not_true]
            split <;> first | trivial | exact ⟨rfl, rfl⟩
          rintro e s2 ⟨rfl, rfl⟩
          exact last s2 hs2 hm2 g2
        | @node d nm cs hnm hcs hk =>
          have hk' : ∀ x ∈ cs, TreeOk (2 * c + 2) (d + 1) x := fun x m => (hk x m).mono (by omega) (by omega)
          refine seq_mid (fun e s => e = ([some (scr ns), some (PV.loc l), some rowsV, some (PV.tup [.str nm, .tup cs]), some (PV.lst (List.map PV.str us)), some (PV.loc m), none, some (PV.int kind), none] : PEnv) ∧ SrcAt s l ∧ Room s m ∧ Gr [l, m] st s) ?_ ?_
          · simp only [sat_ok, sat_bind, sat_v, sat_c, sat_bin, sat_un, sat_test, sat_truth, sat_and, sat_or, sat_not, sat_yes, sat_andv, sat_notv, sat_chain, sat_nil, sat_cons, sat_args, sat_call, sat_callX, sat_meth, sat_one, sat_oNone, sat_oSome, sat_sl, sat_tup, sat_lst, sat_loc, ss_nil, ss_seq, ss_set, ss_expr, ss_ret, ss_retN, ss_if, ss_tg, ss_par, ss_sub, ss_for, sat_comp, setTg, setTgs, wipeP, sizeLine_eq, List.map_cons, List.map_nil, List.length_cons, List.length_nil, List.cons_append, List.nil_append, List.set_cons_zero, List.set_cons_succ, List.getElem?_cons_zero, List.getElem?_cons_succ, Nat.reduceAdd, Nat.reduceSub, Nat.reduceLeDiff, List.reduceReplicate, Option.some.injEq, exists_eq_left', true_and, and_true, Nat.zero_add, o_addI, o_addS, o_addT, o_addL, o_subI, o_mulI, o_fdivI, o_modI, o_powI, o_negI, o_eqI, o_neI, o_eqS, o_neS, o_ltI, o_gtI, o_leI, o_geI, o_ltS, o_geS, o_inS, o_notInS, o_isN, o_isNotN, o_isT, o_isNotT, o_isS, o_isNotS, o_int, o_intB, o_abs, o_str, o_lenT, o_lenL, o_lenF, o_lenS, o_ixT, o_ixL, o_ixF, ixW_0, ixW_1, ixW_2, o_isStr, o_tupL, o_tupT, o_listT, o_listL, o_listLocT, o_gcd, o_bits, o_finF, o_finT, sat_iVal, sat_iEnum, sat_iRange1, sat_iRange2, o_itT, o_itL, o_itF, o_itS, o_enT, o_rng, isi_t, Int.reduceLE, Int.reduceLT, nabs, Nat.reducePow, Nat.reduceLT, Int.reduceToNat, Int.reducePow, true_and, and_true, or_true, true_or, and_self, if_true, if_false, Bool.false_eq_true, decide_true, decide_false, not_false_eq_true, List.length_map, Bool.not_false]
            split
            · refine name' hs2 (Use.lst (n := 900) (by omega)) (by decide) fun z s3 hz hs3 g3 => ?_
              simp only [o_addI, o_addS, o_addT, o_addL, o_subI, o_mulI, o_fdivI, o_modI, o_powI, o_negI, o_eqI, o_neI, o_eqS, o_neS, o_ltI, o_gtI, o_leI, o_geI, o_ltS, o_geS, o_inS, o_notInS, o_isN, o_isNotN, o_isT, o_isNotT, o_isS, o_isNotS, o_int, o_intB, o_abs, o_str, o_lenT, o_lenL, o_lenF, o_lenS, o_ixT, o_ixL, o_ixF, ixW_0, ixW_1, ixW_2, o_isStr, o_tupL, o_tupT, o_listT, o_listL, o_listLocT, o_gcd, o_bits, o_finF, o_finT, sat_iVal, sat_iEnum, sat_iRange1, sat_iRange2, o_itT, o_itL, o_itF, o_itS, o_enT, o_rng, lenq]
              refine ⟨by rw [sizeLine_eq]; omega, ?_⟩
              exact k _ s3 (.node (by rw [len_app, lenq]; omega) (by omega) hk') hs3 (hm2.gr g3 (by simpa using Ne.symm nlm)) (g2.trans (g3.mono (by simp)))
            · first | exact ⟨rfl, hs2, hm2, g2⟩ | exact ⟨hs2, hm2, g2⟩ | (split; contradiction; first | exact ⟨rfl, hs2, hm2, g2⟩ | exact ⟨hs2, hm2, g2⟩)
          rintro e s3 ⟨rfl, hs3, hm3, g3⟩
          refine seq_mid (fun e s => e = ([some (scr ns), some (PV.loc l), some rowsV, some (PV.tup [.str nm, .tup cs]), some (PV.lst (List.map PV.str us)), some (PV.loc m), none, some (PV.int kind), none] : PEnv) ∧ s = s3) ?_ ?_
          · simp only [sat_ok, sat_bind, sat_v, sat_c, sat_bin, sat_un, sat_test, sat_truth, sat_and, sat_or, sat_not, sat_yes, sat_andv, sat_notv, sat_chain, sat_nil, sat_cons, sat_args, sat_call, sat_callX, sat_meth, sat_one, sat_oNone, sat_oSome, sat_sl, sat_tup, sat_lst, sat_loc, ss_nil, ss_seq, ss_set, ss_expr, ss_ret, ss_retN, ss_if, ss_tg, ss_par, ss_sub, ss_for, sat_comp, setTg, setTgs, wipeP, sizeLine_eq, List.map_cons, List.map_nil, List.length_cons, List.length_nil, List.cons_append, List.nil_append, List.set_cons_zero, List.set_cons_succ, List.getElem?_cons_zero, List.getElem?_cons_succ, Nat.reduceAdd, Nat.reduceSub, Nat.reduceLeDiff, List.reduceReplicate, Option.some.injEq, exists_eq_left', true_and, and_true, Nat.zero_add, o_addI, o_addS, o_addT, o_addL, o_subI, o_mulI, o_fdivI, o_modI, o_powI, o_negI, o_eqI, o_neI, o_eqS, o_neS, o_ltI, o_gtI, o_leI, o_geI, o_ltS, o_geS, o_inS, o_notInS, o_isN, o_isNotN, o_isT, o_isNotT, o_isS, o_isNotS, o_int, o_intB, o_abs, o_str, o_lenT, o_lenL, o_lenF, o_lenS, o_ixT, o_ixL, o_ixF, ixW_0, ixW_1, ixW_2, o_isStr, o_tupL, o_tupT, o_listT, o_listL, o_listLocT, o_gcd, o_bits, o_finF, o_finT, sat_iVal, sat_iEnum, sat_iRange1, sat_iRange2, o_itT, o_itL, o_itF, o_itS, o_enT, o_rng, isi_t, Int.reduceLE, Int.reduceLT, nabs, Nat.reducePow, Nat.reduceLT, Int.reduceToNat, Int.reducePow, true_and, and_true, or_true, true_or, and_self, if_true, if_false, Bool.false_eq_true, decide_true, decide_false, not_false_eq_true, List.length_map, Bool.not_false, o_slT]
            split
            · have := cutP_len (xs := cs) (lo := none) (hi := some 1)
              refine ⟨by omega, ?_⟩
              refine k _ s3 (.node hnm (by rw [List.length_append]; omega) fun x hx => ?_) hs3 hm3 g3
              rcases List.mem_append.mp hx with q | q
              · exact hk' x q
              · exact hk' x (cutP_mem q)
            · first | trivial | exact ⟨rfl, rfl⟩ | (split; contradiction; first | trivial | exact ⟨rfl, rfl⟩)
          rintro e s3 ⟨rfl, rfl⟩
          refine seq_mid (fun e s => e = ([some (scr ns), some (PV.loc l), some rowsV, some (PV.tup [.str nm, .tup cs]), some (PV.lst (List.map PV.str us)), some (PV.loc m), none, some (PV.int kind), none] : PEnv) ∧ s = s3) ?_ ?_
          · simp only [sat_ok, sat_bind, sat_v, sat_c, sat_bin, sat_un, sat_test, sat_truth, sat_and, sat_or, sat_not, sat_yes, sat_andv, sat_notv, sat_chain, sat_nil, sat_cons, sat_args, sat_call, sat_callX, sat_meth, sat_one, sat_oNone, sat_oSome, sat_sl, sat_tup, sat_lst, sat_loc, ss_nil, ss_seq, ss_set, ss_expr, ss_ret, ss_retN, ss_if, ss_tg, ss_par, ss_sub, ss_for, sat_comp, setTg, setTgs, wipeP, sizeLine_eq, List.map_cons, List.map_nil, List.length_cons, List.length_nil, List.cons_append, List.nil_append, List.set_cons_zero, List.set_cons_succ, List.getElem?_cons_zero, List.getElem?_cons_succ, Nat.reduceAdd, Nat.reduceSub, Nat.reduceLeDiff, List.reduceReplicate, Option.some.injEq, exists_eq_left', true_and, and_true, Nat.zero_add, o_addI, o_addS, o_addT, o_addL, o_subI, o_mulI, o_fdivI, o_modI, o_powI, o_negI, o_eqI, o_neI, o_eqS, o_neS, o_ltI, o_gtI, o_leI, o_geI, o_ltS, o_geS, o_inS, o_notInS, o_isN, o_isNotN, o_isT, o_isNotT, o_isS, o_isNotS, o_int, o_intB, o_abs, o_str, o_lenT, o_lenL, o_lenF, o_lenS, o_ixT, o_ixL, o_ixF, ixW_0, ixW_1, ixW_2, o_isStr, o_tupL, o_tupT, o_listT, o_listL, o_listLocT, o_gcd, o_bits, o_finF, o_finT, sat_iVal, sat_iEnum, sat_iRange1, sat_iRange2, o_itT, o_itL, o_itF, o_itS, o_enT, o_rng, isi_t, Int.reduceLE, Int.reduceLT, nabs, Nat.reducePow, Nat.reduceLT, Int.reduceToNat, Int.reducePow, true_and, and_true, or_true, true_or, and_self, if_true, if_false, Bool.false_eq_true, decide_true, decide_false, not_false_eq_true, List.length_map, Bool.not_false, o_slT]
            split
            · have := cutP_len (xs := cs) (lo := none) (hi := some (-1))
              exact k _ s3 (.node hnm (by omega) fun x hx => hk' x (cutP_mem hx)) hs3 hm3 g3
            · first | trivial | exact ⟨rfl, rfl⟩ | (split; contradiction; first | trivial | exact ⟨rfl, rfl⟩)
          rintro e s3 ⟨rfl, rfl⟩
          exact last s3 hs3 hm3 g3
      · rw [ss_nil]; exact ⟨rfl, rfl⟩
    rintro e s2 ⟨rfl, rfl⟩
    cases ht with
    | @leaf d z hz =>
      simp only [sat_ok, sat_bind, sat_v, sat_c, sat_bin, sat_un, sat_test, sat_truth, sat_and, sat_or, sat_not, sat_yes, sat_andv, sat_notv, sat_chain, sat_nil, sat_cons, sat_args, sat_call, sat_callX, sat_meth, sat_one, sat_oNone, sat_oSome, sat_sl, sat_tup, sat_lst, sat_loc, ss_nil, ss_seq, ss_set, ss_expr, ss_ret, ss_retN, ss_if, ss_tg, ss_par, ss_sub, ss_for, sat_comp, setTg, setTgs, wipeP, sizeLine_eq, List.map_cons, List.map_nil, List.length_cons, List.length_nil, List.cons_append, List.nil_append, List.set_cons_zero, List.set_cons_succ, List.getElem?_cons_zero, List.getElem?_cons_succ, Nat.reduceAdd, Nat.reduceSub, Nat.reduceLeDiff, List.reduceReplicate, Option.some.injEq, exists_eq_left', true_and, and_true, Nat.zero_add, o_addI, o_addS, o_addT, o_addL, o_subI, o_mulI, o_fdivI, o_modI, o_powI, o_negI, o_eqI, o_neI, o_eqS, o_neS, o_ltI, o_gtI, o_leI, o_geI, o_ltS, o_geS, o_inS, o_notInS, o_isN, o_isNotN, o_isT, o_isNotT, o_isS, o_isNotS, o_int, o_intB, o_abs, o_str, o_lenT, o_lenL, o_lenF, o_lenS, o_ixT, o_ixL, o_ixF, ixW_0, ixW_1, ixW_2, o_isStr, o_tupL, o_tupT, o_listT, o_listL, o_listLocT, o_gcd, o_bits, o_finF, o_finT, sat_iVal, sat_iEnum, sat_iRange1, sat_iRange2, o_itT, o_itL, o_itF, o_itS, o_enT, o_rng, isi_s, Int.reduceLE, Int.reduceLT, nabs, Nat.reducePow, Nat.reduceLT, Int.reduceToNat, Int.reducePow, true_and, and_true, or_true, true_or, and_self, if_true, if_false, Bool.false_eq_true, decide_true, decide_false, not_false_eq_true, List.length_map]
      exact k _ s2 (.leaf hz) hs1 hm1 g1
    | @node d nm cs hnm hcs hk =>
      refine seq_mid (fun e s => e = ([some (scr ns), some (PV.loc l), some rowsV, some (PV.tup [.str nm, .tup cs]), some (PV.lst (List.map PV.str us)), some (PV.loc m), none, none, none] : PEnv) ∧ s = s2) ?_ ?_
      · simp only [sat_ok, sat_bind, sat_v, sat_c, sat_bin, sat_un, sat_test, sat_truth, sat_and, sat_or, sat_not, sat_yes, sat_andv, sat_notv, sat_chain, sat_nil, sat_cons, sat_args, sat_call, sat_callX, sat_meth, sat_one, sat_oNone, sat_oSome, sat_sl, sat_tup, sat_lst, sat_loc, ss_nil, ss_seq, ss_set, ss_expr, ss_ret, ss_retN, ss_if, ss_tg, ss_par, ss_sub, ss_for, sat_comp, setTg, setTgs, wipeP, sizeLine_eq, List.map_cons, List.map_nil, List.length_cons, List.length_nil, List.cons_append, List.nil_append, List.set_cons_zero, List.set_cons_succ, List.getElem?_cons_zero, List.getElem?_cons_succ, Nat.reduceAdd, Nat.reduceSub, Nat.reduceLeDiff, List.reduceReplicate, Option.some.injEq, exists_eq_left', true_and, and_true, Nat.zero_add, o_addI, o_addS, o_addT, o_addL, o_subI, o_mulI, o_fdivI, o_modI, o_powI, o_negI, o_eqI, o_neI, o_eqS, o_neS, o_ltI, o_gtI, o_leI, o_geI, o_ltS, o_geS, o_inS, o_notInS, o_isN, o_isNotN, o_isT, o_isNotT, o_isS, o_isNotS, o_int, o_intB, o_abs, o_str, o_lenT, o_lenL, o_lenF, o_lenS, o_ixT, o_ixL, o_ixF, ixW_0, ixW_1, ixW_2, o_isStr, o_tupL, o_tupT, o_listT, o_listL, o_listLocT, o_gcd, o_bits, o_finF, o_finT, sat_iVal, sat_iEnum, sat_iRange1, sat_iRange2, o_itT, o_itL, o_itF, o_itS, o_enT, o_rng, isi_t, Int.reduceLE, Int.reduceLT, nabs, Nat.reducePow, Nat.reduceLT, Int.reduceToNat, Int.reducePow, true_and, and_true, or_true, true_or, and_self, if_true, if_false, Bool.false_eq_true, decide_true, decide_false, not_false_eq_true, List.length_map]
      rintro e s2 ⟨rfl, rfl⟩
      have e1 : us.map PV.str ++ [PV.str nm] = (us ++ [nm]).map PV.str := by simp
      simp only [sat_ok, sat_bind, sat_v, sat_c, sat_bin, sat_un, sat_test, sat_truth, sat_and, sat_or, sat_not, sat_yes, sat_andv, sat_notv, sat_chain, sat_nil, sat_cons, sat_args, sat_call, sat_callX, sat_meth, sat_one, sat_oNone, sat_oSome, sat_sl, sat_tup, sat_lst, sat_loc, ss_nil, ss_seq, ss_set, ss_expr, ss_ret, ss_retN, ss_if, ss_tg, ss_par, ss_sub, ss_for, sat_comp, setTg, setTgs, wipeP, sizeLine_eq, List.map_cons, List.map_nil, List.length_cons, List.length_nil, List.cons_append, List.nil_append, List.set_cons_zero, List.set_cons_succ, List.getElem?_cons_zero, List.getElem?_cons_succ, Nat.reduceAdd, Nat.reduceSub, Nat.reduceLeDiff, List.reduceReplicate, Option.some.injEq, exists_eq_left', true_and, and_true, Nat.zero_add, o_addI, o_addS, o_addT, o_addL, o_subI, o_mulI, o_fdivI, o_modI, o_powI, o_negI, o_eqI, o_neI, o_eqS, o_neS, o_ltI, o_gtI, o_leI, o_geI, o_ltS, o_geS, o_inS, o_notInS, o_isN, o_isNotN, o_isT, o_isNotT, o_isS, o_isNotS, o_int, o_intB, o_abs, o_str, o_lenT, o_lenL, o_lenF, o_lenS, o_ixT, o_ixL, o_ixF, ixW_0, ixW_1, ixW_2, o_isStr, o_tupL, o_tupT, o_listT, o_listL, o_listLocT, o_gcd, o_bits, o_finF, o_finT, sat_iVal, sat_iEnum, sat_iRange1, sat_iRange2, o_itT, o_itL, o_itF, o_itS, o_enT, o_rng, e1]
      refine ⟨by rw [List.length_map]; omega, ?_⟩
      refine comp_inv (fun i acc s => acc.length = i ∧ (∀ y ∈ acc, TreeOk (2 * c + 2) (d + 1) y) ∧ SrcAt s l ∧ Room s m ∧ Gr [l, m] st s) (k := 0) ⟨rfl, nofun, hs1, hm1, g1⟩ ?_ ?_
      · rintro i x s acc hv ⟨hl, hE, b1, b2, b3⟩
        have hi : i < cs.length := (List.getElem?_eq_some_iff.mp hv).1
        refine ⟨_, rfl, ?_⟩
        rw [sat_yes, if_pos rfl]
        simp only [sat_ok, sat_bind, sat_v, sat_c, sat_bin, sat_un, sat_test, sat_truth, sat_and, sat_or, sat_not, sat_yes, sat_andv, sat_notv, sat_chain, sat_nil, sat_cons, sat_args, sat_call, sat_callX, sat_meth, sat_one, sat_oNone, sat_oSome, sat_sl, sat_tup, sat_lst, sat_loc, ss_nil, ss_seq, ss_set, ss_expr, ss_ret, ss_retN, ss_if, ss_tg, ss_par, ss_sub, ss_for, sat_comp, setTg, setTgs, wipeP, sizeLine_eq, List.map_cons, List.map_nil, List.length_cons, List.length_nil, List.cons_append, List.nil_append, List.set_cons_zero, List.set_cons_succ, List.getElem?_cons_zero, List.getElem?_cons_succ, Nat.reduceAdd, Nat.reduceSub, Nat.reduceLeDiff, List.reduceReplicate, Option.some.injEq, exists_eq_left', true_and, and_true, Nat.zero_add]
        refine spoilt_tree_ok hc nlm n d x (us ++ [nm]) s _ (hk x (List.mem_of_getElem? hv)) (by omega) (by simp; omega) (fun u hu => ?_) b1 b2 fun v s3 h1 h2 h3 h4 => ?_
        · rcases List.mem_append.mp hu with q | q
          · exact hus u q
          · rw [List.mem_singleton.mp q]; exact hnm
        · refine ⟨by omega, by simp; omega, fun y hy => ?_, h2, h3, b3.trans h4⟩
          rcases List.mem_append.mp hy with q | q
          · exact hE y q
          · rw [List.mem_singleton.mp q]; exact h1
      · rintro acc s ⟨hl, hE, b1, b2, b3⟩
        try simp only [sat_ok, sat_bind, sat_v, sat_c, sat_bin, sat_un, sat_test, sat_truth, sat_and, sat_or, sat_not, sat_yes, sat_andv, sat_notv, sat_chain, sat_nil, sat_cons, sat_args, sat_call, sat_callX, sat_meth, sat_one, sat_oNone, sat_oSome, sat_sl, sat_tup, sat_lst, sat_loc, ss_nil, ss_seq, ss_set, ss_expr, ss_ret, ss_retN, ss_if, ss_tg, ss_par, ss_sub, ss_for, sat_comp, setTg, setTgs, wipeP, sizeLine_eq, List.map_cons, List.map_nil, List.length_cons, List.length_nil, List.cons_append, List.nil_append, List.set_cons_zero, List.set_cons_succ, List.getElem?_cons_zero, List.getElem?_cons_succ, Nat.reduceAdd, Nat.reduceSub, Nat.reduceLeDiff, List.reduceReplicate, Option.some.injEq, exists_eq_left', true_and, and_true, Nat.zero_add, o_addI, o_addS, o_addT, o_addL, o_subI, o_mulI, o_fdivI, o_modI, o_powI, o_negI, o_eqI, o_neI, o_eqS, o_neS, o_ltI, o_gtI, o_leI, o_geI, o_ltS, o_geS, o_inS, o_notInS, o_isN, o_isNotN, o_isT, o_isNotT, o_isS, o_isNotS, o_int, o_intB, o_abs, o_str, o_lenT, o_lenL, o_lenF, o_lenS, o_ixT, o_ixL, o_ixF, ixW_0, ixW_1, ixW_2, o_isStr, o_tupL, o_tupT, o_listT, o_listL, o_listLocT, o_gcd, o_bits, o_finF, o_finT, sat_iVal, sat_iEnum, sat_iRange1, sat_iRange2, o_itT, o_itL, o_itF, o_itS, o_enT, o_rng]
        exact k _ s (.node hnm (by simp at hl; omega) hE) b1 b2 b3
end PL
/-! PL, part z: the long trees. -/
namespace PL
open PySem PySem.Spec PyProof.Rows L2
theorem o_in2 {i a b : Int} {st : Store} : ∃ r : Bool, ∀ Q : PV → Store → Prop, Sat (pIn (.int i) (.tup [.int a, .int b]) st) Q = Q (.bl r) st := by
  refine ⟨inD (.int i) [.int a, .int b], fun Q => ?_⟩
  have : pIn (.int i) (.tup [.int a, .int b]) st = .ok (.bl (inD (.int i) [.int a, .int b])) st := by
    unfold pIn
    simp only [seqOf]
    rw [if_pos ⟨by simp [isD], by simp [isDs, isD], by simp [toD, toDs, PyData.depth, PyData.depthAll]⟩]
  rw [this, sat_ok]
theorem spine_ok {ns : List Int} {l m : Nat} {us : List Str} (hu0 : us ≠ []) (hul : us.length ≤ 1000) (hus : ∀ u ∈ us, u.length ≤ 60) (nlm : l ≠ m) : ∀ (n deep : Nat) (rows : List PV) (st : Store) (Q : PV → Store → Prop),
    1 ≤ deep → deep ≤ n → rows ≠ [] → rows.length ≤ 100 → (∀ r ∈ rows, GRow r) → SrcAt st l → Room st m →
    (∀ v s, TreeOk 64 deep v → SrcAt s l → Room s m → Gr [l, m] st s → Q v s) →
    Sat (fuelF 13 f_law_spine n [scr ns, .loc l, .lst rows, .lst (us.map .str), .loc m, .int (deep : Int)] st) Q
  | 0, deep, rows, st, Q, h1, h2, _, _, _, _, _, _ => by omega
  | n + 1, deep, rows, st, Q, h1, h2, hne, hn2, hg, hs, hm, k => by
    have hlen : 0 < rows.length := List.length_pos_iff.mpr hne
    refine sat_body ?_
    unfold f_law_spine
    simp only [List.map_cons, List.map_nil, List.length_cons, List.length_nil, Nat.reduceAdd, Nat.reduceSub, List.reduceReplicate, List.cons_append, List.nil_append]
    refine seq_mid (fun e s => ∃ row ∈ rows, e = ([some (scr ns), some (PV.loc l), some (PV.lst rows), some (PV.lst (List.map PV.str us)), some (PV.loc m), some (PV.int ((deep : Nat) : Int)), some row, none, none, none, none, none, none] : PEnv) ∧ SrcAt s l ∧ Gr [l] st s) ?_ ?_
    · simp only [sat_ok, sat_bind, sat_v, sat_c, sat_bin, sat_un, sat_test, sat_truth, sat_and, sat_or, sat_not, sat_yes, sat_andv, sat_notv, sat_chain, sat_nil, sat_cons, sat_args, sat_call, sat_callX, sat_meth, sat_one, sat_oNone, sat_oSome, sat_sl, sat_tup, sat_lst, sat_loc, ss_nil, ss_seq, ss_set, ss_expr, ss_ret, ss_retN, ss_if, ss_tg, ss_par, ss_sub, ss_for, sat_comp, setTg, setTgs, wipeP, sizeLine_eq, List.map_cons, List.map_nil, List.length_cons, List.length_nil, List.cons_append, List.nil_append, List.set_cons_zero, List.set_cons_succ, List.getElem?_cons_zero, List.getElem?_cons_succ, Nat.reduceAdd, Nat.reduceSub, Nat.reduceLeDiff, List.reduceReplicate, Option.some.injEq, exists_eq_left', true_and, and_true, Nat.zero_add, o_addI, o_addS, o_addT, o_addL, o_subI, o_mulI, o_fdivI, o_modI, o_powI, o_negI, o_eqI, o_neI, o_eqS, o_neS, o_ltI, o_gtI, o_leI, o_geI, o_ltS, o_geS, o_inS, o_notInS, o_isN, o_isNotN, o_isT, o_isNotT, o_isS, o_isNotS, o_int, o_intB, o_abs, o_str, o_lenT, o_lenL, o_lenF, o_lenS, o_ixT, o_ixL, o_ixF, ixW_0, ixW_1, ixW_2, o_isStr, o_tupL, o_tupT, o_listT, o_listL, o_listLocT, o_gcd, o_bits, o_finF, o_finT, sat_iVal, sat_iEnum, sat_iRange1, sat_iRange2, o_itT, o_itL, o_itF, o_itS, o_enT, o_rng]
      refine draw' hs (by omega) (log2_k (n := 100) (by omega) (by omega)) fun r s c0 c1 hs1 g1 => ?_
      simp only [o_addI, o_addS, o_addT, o_addL, o_subI, o_mulI, o_fdivI, o_modI, o_powI, o_negI, o_eqI, o_neI, o_eqS, o_neS, o_ltI, o_gtI, o_leI, o_geI, o_ltS, o_geS, o_inS, o_notInS, o_isN, o_isNotN, o_isT, o_isNotT, o_isS, o_isNotS, o_int, o_intB, o_abs, o_str, o_lenT, o_lenL, o_lenF, o_lenS, o_ixT, o_ixL, o_ixF, ixW_0, ixW_1, ixW_2, o_isStr, o_tupL, o_tupT, o_listT, o_listL, o_listLocT, o_gcd, o_bits, o_finF, o_finT, sat_iVal, sat_iEnum, sat_iRange1, sat_iRange2, o_itT, o_itL, o_itF, o_itS, o_enT, o_rng]
      exact draw_len c0 c1 fun y hy => ⟨y, hy, rfl, hs1, g1⟩
    rintro e s1 ⟨row, hrow, rfl, hs1, g1⟩
    have hgr := hg row hrow
    obtain ⟨ws, hw1, hw2, hix⟩ := row_ix2 hgr
    refine seq_mid (fun e s => ∃ rest : List PV, e = ([some (scr ns), some (PV.loc l), some (PV.lst rows), some (PV.lst (List.map PV.str us)), some (PV.loc m), some (PV.int ((deep : Nat) : Int)), some row, some (PV.lst rest), none, none, none, none, none] : PEnv) ∧ rest.length ≤ rows.length ∧ (∀ x ∈ rest, GRow x) ∧ s = s1) ?_ ?_
    · simp only [sat_ok, sat_bind, sat_v, sat_c, sat_bin, sat_un, sat_test, sat_truth, sat_and, sat_or, sat_not, sat_yes, sat_andv, sat_notv, sat_chain, sat_nil, sat_cons, sat_args, sat_call, sat_callX, sat_meth, sat_one, sat_oNone, sat_oSome, sat_sl, sat_tup, sat_lst, sat_loc, ss_nil, ss_seq, ss_set, ss_expr, ss_ret, ss_retN, ss_if, ss_tg, ss_par, ss_sub, ss_for, sat_comp, setTg, setTgs, wipeP, sizeLine_eq, List.map_cons, List.map_nil, List.length_cons, List.length_nil, List.cons_append, List.nil_append, List.set_cons_zero, List.set_cons_succ, List.getElem?_cons_zero, List.getElem?_cons_succ, Nat.reduceAdd, Nat.reduceSub, Nat.reduceLeDiff, List.reduceReplicate, Option.some.injEq, exists_eq_left', true_and, and_true, Nat.zero_add, o_addI, o_addS, o_addT, o_addL, o_subI, o_mulI, o_fdivI, o_modI, o_powI, o_negI, o_eqI, o_neI, o_eqS, o_neS, o_ltI, o_gtI, o_leI, o_geI, o_ltS, o_geS, o_inS, o_notInS, o_isN, o_isNotN, o_isT, o_isNotT, o_isS, o_isNotS, o_int, o_intB, o_abs, o_str, o_lenT, o_lenL, o_lenF, o_lenS, o_ixT, o_ixL, o_ixF, ixW_0, ixW_1, ixW_2, o_isStr, o_tupL, o_tupT, o_listT, o_listL, o_listLocT, o_gcd, o_bits, o_finF, o_finT, sat_iVal, sat_iEnum, sat_iRange1, sat_iRange2, o_itT, o_itL, o_itF, o_itS, o_enT, o_rng]
      refine comp_pick (fun x => !decide (nameOf x = nameOf row)) (by simp) (by omega) (fun x hx => rest_test hgr rfl (by decide) (by simp) x (hg x hx)) ?_
      simp only [o_addI, o_addS, o_addT, o_addL, o_subI, o_mulI, o_fdivI, o_modI, o_powI, o_negI, o_eqI, o_neI, o_eqS, o_neS, o_ltI, o_gtI, o_leI, o_geI, o_ltS, o_geS, o_inS, o_notInS, o_isN, o_isNotN, o_isT, o_isNotT, o_isS, o_isNotS, o_int, o_intB, o_abs, o_str, o_lenT, o_lenL, o_lenF, o_lenS, o_ixT, o_ixL, o_ixF, ixW_0, ixW_1, ixW_2, o_isStr, o_tupL, o_tupT, o_listT, o_listL, o_listLocT, o_gcd, o_bits, o_finF, o_finT, sat_iVal, sat_iEnum, sat_iRange1, sat_iRange2, o_itT, o_itL, o_itF, o_itS, o_enT, o_rng]
      exact ⟨_, rfl, List.length_filter_le .., fun x hx => hg x (List.mem_filter.mp hx).1, trivial⟩
    rintro e s1 ⟨rest, rfl, hlt, hgrest, rfl⟩
    obtain ⟨r0, hr0⟩ := hm.gr g1 (by simpa using Ne.symm nlm)
    have hml := lt_of_some hr0
    refine seq_mid (fun e s => e = ([some (scr ns), some (PV.loc l), some (PV.lst rows), some (PV.lst (List.map PV.str us)), some (PV.loc m), some (PV.int ((deep : Nat) : Int)), some row, some (PV.lst rest), none, none, none, none, none] : PEnv) ∧ SrcAt s l ∧ Room s m ∧ Gr [l, m] st s) ?_ ?_
    · simp only [sat_ok, sat_bind, sat_v, sat_c, sat_bin, sat_un, sat_test, sat_truth, sat_and, sat_or, sat_not, sat_yes, sat_andv, sat_notv, sat_chain, sat_nil, sat_cons, sat_args, sat_call, sat_callX, sat_meth, sat_one, sat_oNone, sat_oSome, sat_sl, sat_tup, sat_lst, sat_loc, ss_nil, ss_seq, ss_set, ss_expr, ss_ret, ss_retN, ss_if, ss_tg, ss_par, ss_sub, ss_for, sat_comp, setTg, setTgs, wipeP, sizeLine_eq, List.map_cons, List.map_nil, List.length_cons, List.length_nil, List.cons_append, List.nil_append, List.set_cons_zero, List.set_cons_succ, List.getElem?_cons_zero, List.getElem?_cons_succ, Nat.reduceAdd, Nat.reduceSub, Nat.reduceLeDiff, List.reduceReplicate, Option.some.injEq, exists_eq_left', true_and, and_true, Nat.zero_add, o_addI, o_addS, o_addT, o_addL, o_subI, o_mulI, o_fdivI, o_modI, o_powI, o_negI, o_eqI, o_neI, o_eqS, o_neS, o_ltI, o_gtI, o_leI, o_geI, o_ltS, o_geS, o_inS, o_notInS, o_isN, o_isNotN, o_isT, o_isNotT, o_isS, o_isNotS, o_int, o_intB, o_abs, o_str, o_lenT, o_lenL, o_lenF, o_lenS, o_ixT, o_ixL, o_ixF, ixW_0, ixW_1, ixW_2, o_isStr, o_tupL, o_tupT, o_listT, o_listL, o_listLocT, o_gcd, o_bits, o_finF, o_finT, sat_iVal, sat_iEnum, sat_iRange1, sat_iRange2, o_itT, o_itL, o_itF, o_itS, o_enT, o_rng, o_ixP hr0, o_set hr0, ixN1_0, hix]
      have g : Gr [m] s1 (s1.set m (.lst [.int (r0 - ((ints' ws).length : Int))])) := .set (by simp)
      exact ⟨hs1.gr g (by simpa using nlm), ⟨_, List.getElem?_set_self hml⟩, (g1.mono (by simp)).trans (g.mono (by simp))⟩
    rintro e s2 ⟨rfl, hs2, hm2, g2⟩
    refine seq_mid (fun e s => ∃ on : Int, e = ([some (scr ns), some (PV.loc l), some (PV.lst rows), some (PV.lst (List.map PV.str us)), some (PV.loc m), some (PV.int ((deep : Nat) : Int)), some row, some (PV.lst rest), some (PV.int on), none, none, none, none] : PEnv) ∧ SrcAt s l ∧ Room s m ∧ Gr [l, m] st s) ?_ ?_
    · simp only [sat_ok, sat_bind, sat_v, sat_c, sat_bin, sat_un, sat_test, sat_truth, sat_and, sat_or, sat_not, sat_yes, sat_andv, sat_notv, sat_chain, sat_nil, sat_cons, sat_args, sat_call, sat_callX, sat_meth, sat_one, sat_oNone, sat_oSome, sat_sl, sat_tup, sat_lst, sat_loc, ss_nil, ss_seq, ss_set, ss_expr, ss_ret, ss_retN, ss_if, ss_tg, ss_par, ss_sub, ss_for, sat_comp, setTg, setTgs, wipeP, sizeLine_eq, List.map_cons, List.map_nil, List.length_cons, List.length_nil, List.cons_append, List.nil_append, List.set_cons_zero, List.set_cons_succ, List.getElem?_cons_zero, List.getElem?_cons_succ, Nat.reduceAdd, Nat.reduceSub, Nat.reduceLeDiff, List.reduceReplicate, Option.some.injEq, exists_eq_left', true_and, and_true, Nat.zero_add, o_addI, o_addS, o_addT, o_addL, o_subI, o_mulI, o_fdivI, o_modI, o_powI, o_negI, o_eqI, o_neI, o_eqS, o_neS, o_ltI, o_gtI, o_leI, o_geI, o_ltS, o_geS, o_inS, o_notInS, o_isN, o_isNotN, o_isT, o_isNotT, o_isS, o_isNotS, o_int, o_intB, o_abs, o_str, o_lenT, o_lenL, o_lenF, o_lenS, o_ixT, o_ixL, o_ixF, ixW_0, ixW_1, ixW_2, o_isStr, o_tupL, o_tupT, o_listT, o_listL, o_listLocT, o_gcd, o_bits, o_finF, o_finT, sat_iVal, sat_iEnum, sat_iRange1, sat_iRange2, o_itT, o_itL, o_itF, o_itS, o_enT, o_rng, hix, List.length_map]
      exact draw' hs2 (by omega) (log2_k (n := 100) (by omega) (by omega)) fun r s c0 c1 hs3 g3 => ⟨r, rfl, hs3, hm2.gr g3 (by simpa using Ne.symm nlm), g2.trans (g3.mono (by simp))⟩
    rintro e s3 ⟨on, rfl, hs3, hm3, g3⟩
    refine seq_mid (fun e s => ∃ also : Int, e = ([some (scr ns), some (PV.loc l), some (PV.lst rows), some (PV.lst (List.map PV.str us)), some (PV.loc m), some (PV.int ((deep : Nat) : Int)), some row, some (PV.lst rest), some (PV.int on), some (PV.int also), none, none, none] : PEnv) ∧ SrcAt s l ∧ Room s m ∧ Gr [l, m] st s) ?_ ?_
    · simp only [sat_ok, sat_bind, sat_v, sat_c, sat_bin, sat_un, sat_test, sat_truth, sat_and, sat_or, sat_not, sat_yes, sat_andv, sat_notv, sat_chain, sat_nil, sat_cons, sat_args, sat_call, sat_callX, sat_meth, sat_one, sat_oNone, sat_oSome, sat_sl, sat_tup, sat_lst, sat_loc, ss_nil, ss_seq, ss_set, ss_expr, ss_ret, ss_retN, ss_if, ss_tg, ss_par, ss_sub, ss_for, sat_comp, setTg, setTgs, wipeP, sizeLine_eq, List.map_cons, List.map_nil, List.length_cons, List.length_nil, List.cons_append, List.nil_append, List.set_cons_zero, List.set_cons_succ, List.getElem?_cons_zero, List.getElem?_cons_succ, Nat.reduceAdd, Nat.reduceSub, Nat.reduceLeDiff, List.reduceReplicate, Option.some.injEq, exists_eq_left', true_and, and_true, Nat.zero_add, o_addI, o_addS, o_addT, o_addL, o_subI, o_mulI, o_fdivI, o_modI, o_powI, o_negI, o_eqI, o_neI, o_eqS, o_neS, o_ltI, o_gtI, o_leI, o_geI, o_ltS, o_geS, o_inS, o_notInS, o_isN, o_isNotN, o_isT, o_isNotT, o_isS, o_isNotS, o_int, o_intB, o_abs, o_str, o_lenT, o_lenL, o_lenF, o_lenS, o_ixT, o_ixL, o_ixF, ixW_0, ixW_1, ixW_2, o_isStr, o_tupL, o_tupT, o_listT, o_listL, o_listLocT, o_gcd, o_bits, o_finF, o_finT, sat_iVal, sat_iEnum, sat_iRange1, sat_iRange2, o_itT, o_itL, o_itF, o_itS, o_enT, o_rng, hix, List.length_map]
      exact draw' hs3 (by omega) (log2_k (n := 100) (by omega) (by omega)) fun r s c0 c1 hs4 g4 => ⟨r, rfl, hs4, hm3.gr g4 (by simpa using Ne.symm nlm), g3.trans (g4.mono (by simp))⟩
    rintro e s4 ⟨also, rfl, hs4, hm4, g4⟩
    refine seq_mid (fun e t => e = ([some (scr ns), some (PV.loc l), some (PV.lst rows), some (PV.lst (List.map PV.str us)), some (PV.loc m), some (PV.int ((deep : Nat) : Int)), some row, some (PV.lst rest), some (PV.int on), some (PV.int also), some (PV.loc s4.length), none, none] : PEnv) ∧ t = s4 ++ [.lst []]) ?_ ?_
    · simp only [sat_ok, sat_bind, sat_v, sat_c, sat_bin, sat_un, sat_test, sat_truth, sat_and, sat_or, sat_not, sat_yes, sat_andv, sat_notv, sat_chain, sat_nil, sat_cons, sat_args, sat_call, sat_callX, sat_meth, sat_one, sat_oNone, sat_oSome, sat_sl, sat_tup, sat_lst, sat_loc, ss_nil, ss_seq, ss_set, ss_expr, ss_ret, ss_retN, ss_if, ss_tg, ss_par, ss_sub, ss_for, sat_comp, setTg, setTgs, wipeP, sizeLine_eq, List.map_cons, List.map_nil, List.length_cons, List.length_nil, List.cons_append, List.nil_append, List.set_cons_zero, List.set_cons_succ, List.getElem?_cons_zero, List.getElem?_cons_succ, Nat.reduceAdd, Nat.reduceSub, Nat.reduceLeDiff, List.reduceReplicate, Option.some.injEq, exists_eq_left', true_and, and_true, Nat.zero_add, o_addI, o_addS, o_addT, o_addL, o_subI, o_mulI, o_fdivI, o_modI, o_powI, o_negI, o_eqI, o_neI, o_eqS, o_neS, o_ltI, o_gtI, o_leI, o_geI, o_ltS, o_geS, o_inS, o_notInS, o_isN, o_isNotN, o_isT, o_isNotT, o_isS, o_isNotS, o_int, o_intB, o_abs, o_str, o_lenT, o_lenL, o_lenF, o_lenS, o_ixT, o_ixL, o_ixF, ixW_0, ixW_1, ixW_2, o_isStr, o_tupL, o_tupT, o_listT, o_listL, o_listLocT, o_gcd, o_bits, o_finF, o_finT, sat_iVal, sat_iEnum, sat_iRange1, sat_iRange2, o_itT, o_itL, o_itF, o_itS, o_enT, o_rng]
    rintro e t4 ⟨rfl, rfl⟩
    have hl4 := hs4.lt
    have hm4' : m < s4.length := by obtain ⟨r, e⟩ := hm4; exact lt_of_some e
    have hlen4 := g4.len
    have g5 : Gr [l, m] st (s4 ++ [PO.lst []]) := g4.trans .app
    have hs5 := hs4.gr (L := []) .app (by simp) (s := s4 ++ [PO.lst []])
    have hm5 := hm4.gr (L := []) .app (by simp) (s := s4 ++ [PO.lst []])
    have hc5 : (s4 ++ [PO.lst []])[s4.length]? = some (.lst []) := by simp
    generalize hch : s4.length = ch at *
    generalize s4 ++ [PO.lst []] = t4 at *
    refine seq_mid (fun e t => ∃ (kids : List PV) (mv : Option PV), e = ([some (scr ns), some (PV.loc l), some (PV.lst rows), some (PV.lst (List.map PV.str us)), some (PV.loc m), some (PV.int ((deep : Nat) : Int)), some row, some (PV.lst rest), some (PV.int on), some (PV.int also), some (PV.loc ch), mv, none] : PEnv) ∧ t[ch]? = some (.lst kids) ∧ kids.length = ws.length ∧ (∀ x ∈ kids, TreeOk 64 (deep - 1) x) ∧ SrcAt t l ∧ Room t m ∧ Gr [l, m, ch] t4 t) ?_ ?_
    · rw [ss_for, sat_iRange1, sat_args, sat_cons, sat_bin, sat_var rfl, sat_c, hix, sat_nil, sat_one, o_lenT, o_rng]
      refine ⟨by rw [List.length_map]; omega, ?_⟩
      refine for_invN (k := 0) (fun i e t => ∃ (kids : List PV) (mv : Option PV), e = ([some (scr ns), some (PV.loc l), some (PV.lst rows), some (PV.lst (List.map PV.str us)), some (PV.loc m), some (PV.int ((deep : Nat) : Int)), some row, some (PV.lst rest), some (PV.int on), some (PV.int also), some (PV.loc ch), mv, none] : PEnv) ∧ t[ch]? = some (.lst kids) ∧ kids.length = i ∧ (∀ x ∈ kids, TreeOk 64 (deep - 1) x) ∧ SrcAt t l ∧ Room t m ∧ Gr [l, m, ch] t4 t)
        ⟨[], _, rfl, hc5, rfl, nofun, hs5, hm5, .refl⟩ ?_ ?_
      · rintro i v e t hv ⟨kids, mv, rfl, hk, hkl, hkt, hst, hmt, g6⟩
        obtain ⟨hi, rfl⟩ := rngs_get hv
        rw [List.length_map] at hi
        have hi : i < ws.length := by simpa using hi
        refine ⟨_, rfl, ?_⟩
        have nch : ch ∉ [l] := by simp; omega
        have nchm : ch ∉ [l, m] := by simp; omega
        -- a child put behind
        have put : ∀ v s', TreeOk 64 (deep - 1) v → SrcAt s' l → Room s' m → Gr [l, m, ch] t4 s' → s'[ch]? = some (.lst kids) → Sat (pAppend (.loc ch) [v] s') fun _ t => ∃ (kids : List PV) (mv : Option PV), ([some (scr ns), some (PV.loc l), some (PV.lst rows), some (PV.lst (List.map PV.str us)), some (PV.loc m), some (PV.int ((deep : Nat) : Int)), some row, some (PV.lst rest), some (PV.int on), some (PV.int also), some (PV.loc ch), some (PV.int (0 + (i : Int))), none] : PEnv) = ([some (scr ns), some (PV.loc l), some (PV.lst rows), some (PV.lst (List.map PV.str us)), some (PV.loc m), some (PV.int ((deep : Nat) : Int)), some row, some (PV.lst rest), some (PV.int on), some (PV.int also), some (PV.loc ch), mv, none] : PEnv) ∧ t[ch]? = some (.lst kids) ∧ kids.length = i + 1 ∧ (∀ x ∈ kids, TreeOk 64 (deep - 1) x) ∧ SrcAt t l ∧ Room t m ∧ Gr [l, m, ch] t4 t := by
          intro v s' b1 b2 b3 b4 b5
          rw [o_app b5]
          refine ⟨by rw [sizeLine_eq]; omega, ?_⟩
          have g7 : Gr [ch] s' (s'.set ch (.lst (kids ++ [v]))) := .set (by simp)
          refine ⟨kids ++ [v], _, rfl, List.getElem?_set_self (lt_of_some b5), by simp; omega, fun x hx => ?_, b2.gr g7 (by simp; omega), b3.gr g7 (by simp; omega), b4.trans (g7.mono (by simp))⟩
          rcases List.mem_append.mp hx with q | q
          · exact hkt x q
          · rw [List.mem_singleton.mp q]; exact b1
        obtain ⟨rin, hin⟩ := o_in2 (i := 0 + (i : Int)) (a := on) (b := also) (st := t)
        obtain ⟨r1, hr1⟩ := hmt
        have hmt : Room t m := ⟨r1, hr1⟩
        have leafC : isListP (PV.loc ch) t = true ∧ Sat (m_law_draw [scr ns, PV.loc l, PV.int ((List.map PV.str us).length : Int)] t) fun w s => Sat (pIx (PV.lst (List.map PV.str us)) w s) fun v s => Sat (pAppend (PV.loc ch) [v] s) fun _ t => ∃ (kids : List PV) (mv : Option PV), ([some (scr ns), some (PV.loc l), some (PV.lst rows), some (PV.lst (List.map PV.str us)), some (PV.loc m), some (PV.int ((deep : Nat) : Int)), some row, some (PV.lst rest), some (PV.int on), some (PV.int also), some (PV.loc ch), some (PV.int (0 + (i : Int))), none] : PEnv) = ([some (scr ns), some (PV.loc l), some (PV.lst rows), some (PV.lst (List.map PV.str us)), some (PV.loc m), some (PV.int ((deep : Nat) : Int)), some row, some (PV.lst rest), some (PV.int on), some (PV.int also), some (PV.loc ch), mv, none] : PEnv) ∧ t[ch]? = some (.lst kids) ∧ kids.length = i + 1 ∧ (∀ x ∈ kids, TreeOk 64 (deep - 1) x) ∧ SrcAt t l ∧ Room t m ∧ Gr [l, m, ch] t4 t := by
          refine ⟨o_isL hk, ?_⟩
          have hu := List.length_pos_iff.mpr hu0
          refine draw' hst (by rw [List.length_map]; omega) (log2_k (n := 1000) (by omega) (by rw [List.length_map]; omega)) fun r t5 c0 c1 hs5 g7 => ?_
          rw [o_ixL]
          refine draw_len c0 c1 fun y hy => ?_
          obtain ⟨u, mu, rfl⟩ := List.mem_map.mp hy
          exact put _ t5 (.leaf (hus u mu)) hs5 (hmt.gr g7 (by simpa using Ne.symm nlm)) (g6.trans (g7.mono (by simp))) (g7.at' hk nch)
        have deepC : ∀ d' : Nat, 1 ≤ d' → d' ≤ deep - 1 → rest ≠ [] → Sat (fuelF 13 f_law_spine n [scr ns, .loc l, .lst rest, .lst (us.map .str), .loc m, .int (d' : Int)] t) fun v s => Sat (pAppend (PV.loc ch) [v] s) fun _ t => ∃ (kids : List PV) (mv : Option PV), ([some (scr ns), some (PV.loc l), some (PV.lst rows), some (PV.lst (List.map PV.str us)), some (PV.loc m), some (PV.int ((deep : Nat) : Int)), some row, some (PV.lst rest), some (PV.int on), some (PV.int also), some (PV.loc ch), some (PV.int (0 + (i : Int))), none] : PEnv) = ([some (scr ns), some (PV.loc l), some (PV.lst rows), some (PV.lst (List.map PV.str us)), some (PV.loc m), some (PV.int ((deep : Nat) : Int)), some row, some (PV.lst rest), some (PV.int on), some (PV.int also), some (PV.loc ch), mv, none] : PEnv) ∧ t[ch]? = some (.lst kids) ∧ kids.length = i + 1 ∧ (∀ x ∈ kids, TreeOk 64 (deep - 1) x) ∧ SrcAt t l ∧ Room t m ∧ Gr [l, m, ch] t4 t := fun d' a1 a2 a3 =>
          spine_ok hu0 hul hus nlm n d' rest t _ a1 (by omega) a3 (by omega) hgrest hst hmt fun v s b1 b2 b3 b4 => put v s (b1.mono (Nat.le_refl _) a2) b2 b3 (g6.trans (b4.mono (by simp))) (b4.at' hk nchm)
        rw [ss_if]
        simp only [sat_ok, sat_bind, sat_v, sat_c, sat_bin, sat_un, sat_test, sat_truth, sat_and, sat_or, sat_not, sat_yes, sat_andv, sat_notv, sat_chain, sat_nil, sat_cons, sat_args, sat_call, sat_callX, sat_meth, sat_one, sat_oNone, sat_oSome, sat_sl, sat_tup, sat_lst, sat_loc, ss_nil, ss_seq, ss_set, ss_expr, ss_ret, ss_retN, ss_if, ss_tg, ss_par, ss_sub, ss_for, sat_comp, setTg, setTgs, wipeP, sizeLine_eq, List.map_cons, List.map_nil, List.length_cons, List.length_nil, List.cons_append, List.nil_append, List.set_cons_zero, List.set_cons_succ, List.getElem?_cons_zero, List.getElem?_cons_succ, Nat.reduceAdd, Nat.reduceSub, Nat.reduceLeDiff, List.reduceReplicate, Option.some.injEq, exists_eq_left', true_and, and_true, Nat.zero_add, o_addI, o_addS, o_addT, o_addL, o_subI, o_mulI, o_fdivI, o_modI, o_powI, o_negI, o_eqI, o_neI, o_eqS, o_neS, o_ltI, o_gtI, o_leI, o_geI, o_ltS, o_geS, o_inS, o_notInS, o_isN, o_isNotN, o_isT, o_isNotT, o_isS, o_isNotS, o_int, o_intB, o_abs, o_str, o_lenT, o_lenL, o_lenF, o_lenS, o_ixT, o_ixL, o_ixF, ixW_0, ixW_1, ixW_2, o_isStr, o_tupL, o_tupT, o_listT, o_listL, o_listLocT, o_gcd, o_bits, o_finF, o_finT, sat_iVal, sat_iEnum, sat_iRange1, sat_iRange2, o_itT, o_itL, o_itF, o_itS, o_enT, o_rng, hin, o_ixP hr1]
        by_cases q1 : rin = true
        · simp only [q1, if_true]
          by_cases q2 : (1 : Int) < (deep : Int)
          · simp only [decide_eq_true q2, if_true]
            by_cases q3 : (0 : Int) < (rest.length : Int)
            · simp only [decide_eq_true q3, if_true]
              have hre : rest ≠ [] := by intro z; subst z; simp at q3
              split
              · refine ⟨o_isL hk, ?_⟩
                split
                · rename_i q5
                  rw [ixW_1]
                  have := deepC (deep - 1) (by omega) (Nat.le_refl _) hre
                  rw [show (((deep - 1 : Nat) : Int)) = (deep : Int) - 1 by omega] at this
                  exact this
                · rw [ixW_0]
                  exact deepC 1 (by omega) (by omega) hre
              · exact leafC
            · simp only [decide_eq_false q3, Bool.false_eq_true, if_false]
              exact leafC
          · simp only [decide_eq_false q2, Bool.false_eq_true, if_false]
            exact leafC
        · simp only [q1, Bool.false_eq_true, if_false]
          exact leafC
      · rintro e t ⟨kids, mv, rfl, hk, hkl, hkt, hst, hmt, g5⟩
        exact ⟨kids, mv, rfl, hk, by rw [hkl, rngs_len]; simp, hkt, hst, hmt, g5⟩
    rintro e t ⟨kids, mv, rfl, hk, hkl, hkt, hst, hmt, g6⟩
    simp only [sat_ok, sat_bind, sat_v, sat_c, sat_bin, sat_un, sat_test, sat_truth, sat_and, sat_or, sat_not, sat_yes, sat_andv, sat_notv, sat_chain, sat_nil, sat_cons, sat_args, sat_call, sat_callX, sat_meth, sat_one, sat_oNone, sat_oSome, sat_sl, sat_tup, sat_lst, sat_loc, ss_nil, ss_seq, ss_set, ss_expr, ss_ret, ss_retN, ss_if, ss_tg, ss_par, ss_sub, ss_for, sat_comp, setTg, setTgs, wipeP, sizeLine_eq, List.map_cons, List.map_nil, List.length_cons, List.length_nil, List.cons_append, List.nil_append, List.set_cons_zero, List.set_cons_succ, List.getElem?_cons_zero, List.getElem?_cons_succ, Nat.reduceAdd, Nat.reduceSub, Nat.reduceLeDiff, List.reduceReplicate, Option.some.injEq, exists_eq_left', true_and, and_true, Nat.zero_add, row_ix0 hgr, o_tupP hk]
    refine k _ t ?_ hst hmt ?_
    · exact (TreeOk.node (d := deep - 1) (by have := (hgr.name).choose_spec.choose_spec.2.1; omega) (by omega) hkt).mono (Nat.le_refl _) (by omega)
    · refine Gr.cut (L := [l, m, ch]) (L' := [l, m]) ((g5.mono (by simp)).trans g6) ?_
      intro j hj hlt'
      simp only [List.mem_cons, List.not_mem_nil, or_false] at hj ⊢
      omega
end PL
/-! PL, part M1: a game spoilt. -/
namespace PL
open PySem PySem.Spec PyProof.Rows L2
theorem size_log {c d : Nat} {k : Int} (hc : c ≤ 1000) (hd : d ≤ 19) (h1 : 1 ≤ k) (h2 : k ≤ ((c + 1) ^ (d + 1) : Nat)) : k.natAbs.log2 < 9000 := by
  have e1 : (c + 1) ^ (d + 1) ≤ 1024 ^ 20 := Nat.le_trans (Nat.pow_le_pow_left (show c + 1 ≤ 1024 by omega) _) (Nat.pow_le_pow_right (by decide) (by omega))
  have e2 : (1024 : Nat) ^ 20 = 2 ^ 200 := by decide
  rw [e2] at e1
  have : k.natAbs < 2 ^ 201 := by
    have : k.natAbs ≤ 2 ^ 200 := by omega
    exact Nat.lt_of_le_of_lt this (by decide)
  have := (Nat.log2_lt (show k.natAbs ≠ 0 by omega)).mpr this
  omega
theorem spoilt_ok {ns : List Int} {l : Nat} {rows : List PV} {tree : PV} {st : Store} {Q : PV → Store → Prop} (hs : SrcAt st l) (hrl : rows.length ≤ 40) (hr : ∀ r ∈ rows, SRow 65 r) (ht : TreeOk 64 10 tree)
    (k : ∀ rows' tree' s, rows'.length ≤ 400 → (∀ r ∈ rows', SRow 70 r) → TreeOk 600 20 tree' → SrcAt s l → Gr [l] st s → Q (.tup [.tup rows', tree']) s) : Sat (m_law_spoilt [scr ns, .loc l, .tup [.tup rows, tree]] st) Q := by
  refine sat_body ?_
  unfold f_law_spoilt
  generalize hg : PV.tup [PV.tup rows, tree] = g
  simp only [List.map_cons, List.map_nil, List.length_cons, List.length_nil, Nat.reduceAdd, Nat.reduceSub, List.reduceReplicate, List.cons_append, List.nil_append]
  refine seq_mid (fun e s => e = ([some (scr ns), some (PV.loc l), some g, none, some (PV.tup rows), some tree, none, none] : PEnv) ∧ s = st) ?_ ?_
  · rw [ss_tg, sat_var rfl]
    refine ⟨([some (scr ns), some (PV.loc l), some g, none, some (PV.tup rows), some tree, none, none] : PEnv), ?_, rfl, rfl⟩
    rw [← hg]
    rfl
  rintro e st ⟨rfl, rfl⟩
  refine seq_mid (fun e s => ∃ (rows' : List PV) (tree' : PV) (a b c : Option PV), e = ([some (scr ns), some (PV.loc l), some g, a, some (PV.tup rows'), some tree', b, c] : PEnv) ∧ rows'.length ≤ 400 ∧ (∀ r ∈ rows', SRow 70 r) ∧ TreeOk 600 20 tree' ∧ SrcAt s l ∧ Gr [l] st s) ?_ ?_
  · simp only [sat_ok, sat_bind, sat_v, sat_c, sat_bin, sat_un, sat_test, sat_truth, sat_and, sat_or, sat_not, sat_yes, sat_andv, sat_notv, sat_chain, sat_nil, sat_cons, sat_args, sat_call, sat_callX, sat_meth, sat_one, sat_oNone, sat_oSome, sat_sl, sat_tup, sat_lst, sat_loc, ss_nil, ss_seq, ss_set, ss_expr, ss_ret, ss_retN, ss_if, ss_tg, ss_par, ss_sub, ss_for, sat_comp, setTg, setTgs, wipeP, sizeLine_eq, List.map_cons, List.map_nil, List.length_cons, List.length_nil, List.cons_append, List.nil_append, List.set_cons_zero, List.set_cons_succ, List.getElem?_cons_zero, List.getElem?_cons_succ, Nat.reduceAdd, Nat.reduceSub, Nat.reduceLeDiff, List.reduceReplicate, Option.some.injEq, exists_eq_left', true_and, and_true, Nat.zero_add, o_addI, o_addS, o_addT, o_addL, o_subI, o_mulI, o_fdivI, o_modI, o_powI, o_negI, o_eqI, o_neI, o_eqS, o_neS, o_ltI, o_gtI, o_leI, o_geI, o_ltS, o_geS, o_inS, o_notInS, o_isN, o_isNotN, o_isT, o_isNotT, o_isS, o_isNotS, o_int, o_intB, o_abs, o_str, o_lenT, o_lenL, o_lenF, o_lenS, o_ixT, o_ixL, o_ixF, ixW_0, ixW_1, ixW_2, o_isStr, o_tupL, o_tupT, o_listT, o_listL, o_listLocT, o_gcd, o_bits, o_finF, o_finT, sat_iVal, sat_iEnum, sat_iRange1, sat_iRange2, o_itT, o_itL, o_itF, o_itS, o_enT, o_rng]
    refine draw' hs (by decide) (by decide) fun r s1 c0 c1 hs1 g1 => ?_
    simp only [o_addI, o_addS, o_addT, o_addL, o_subI, o_mulI, o_fdivI, o_modI, o_powI, o_negI, o_eqI, o_neI, o_eqS, o_neS, o_ltI, o_gtI, o_leI, o_geI, o_ltS, o_geS, o_inS, o_notInS, o_isN, o_isNotN, o_isT, o_isNotT, o_isS, o_isNotS, o_int, o_intB, o_abs, o_str, o_lenT, o_lenL, o_lenF, o_lenS, o_ixT, o_ixL, o_ixF, ixW_0, ixW_1, ixW_2, o_isStr, o_tupL, o_tupT, o_listT, o_listL, o_listLocT, o_gcd, o_bits, o_finF, o_finT, sat_iVal, sat_iEnum, sat_iRange1, sat_iRange2, o_itT, o_itL, o_itF, o_itS, o_enT, o_rng]
    refine ⟨⟨by omega, by omega⟩, ?_⟩
    refine for_invN (k := 0) (fun i e s => ∃ (rows' : List PV) (tree' : PV) (a b c : Option PV), e = ([some (scr ns), some (PV.loc l), some g, a, some (PV.tup rows'), some tree', b, c] : PEnv) ∧ rows'.length + 1 ≤ 41 * 2 ^ i ∧ (∀ r ∈ rows', SRow (65 + i) r) ∧ TreeOk (66 * 2 ^ i - 2) (10 + i) tree' ∧ SrcAt s l ∧ Gr [l] st s)
      ⟨rows, tree, _, _, _, rfl, by omega, hr, ht, hs1, g1⟩ ?_ ?_
    · rintro i v e s hv ⟨rows', tree', a, b, c, rfl, h1, h2, h3, h4, h5⟩
      obtain ⟨hi, rfl⟩ := rngs_get hv
      have hi3 : i ≤ 2 := by omega
      rw [Nat.zero_add] at h1 h2 h3 ⊢
      have p1 : 2 ^ (i + 1) = 2 * 2 ^ i := by rw [Nat.pow_succ]; omega
      have p2 : 2 ^ i ≤ 4 := Nat.le_trans (Nat.pow_le_pow_right (by decide) hi3) (by decide)
      have p3 : 1 ≤ 2 ^ i := Nat.pow_pos (by decide)
      generalize hp : 2 ^ i = p at *
      refine ⟨_, rfl, ?_⟩
      -- the tree spoilt
      have other : ∀ s, SrcAt s l → Gr [l] st s → SatS ((sSeq (sSet 6 (eArgs mkLoc (aCons (eBin pAdd (eC (.int 1)) (eCall 3 m_law_draw (aCons (eVar 0) (aCons (eVar 1) (aCons (eCall 1 m_law_size (aCons (eVar 5) aNil)) aNil))))) aNil)))
            (sSeq (sSet 7 (eCall 6 m_law_spoilt_tree (aCons (eVar 0) (aCons (eVar 1) (aCons (eVar 4) (aCons (eVar 5) (aCons (eArgs mkLst aNil) (aCons (eVar 6) aNil))))))))
            (sIf (eTest (eBin pLe (eCall 1 m_law_size (aCons (eVar 7) aNil)) (eC (.int 400)))) (sSet 5 (eVar 7)) sNil))) ([some (scr ns), some (PV.loc l), some g, some (PV.int (0 + (i : Int))), some (PV.tup rows'), some tree', b, c] : PEnv) s)
          (fun e s => ∃ (rows' : List PV) (tree' : PV) (a b c : Option PV), e = ([some (scr ns), some (PV.loc l), some g, a, some (PV.tup rows'), some tree', b, c] : PEnv) ∧ rows'.length + 1 ≤ 41 * 2 ^ (i + 1) ∧ (∀ r ∈ rows', SRow (65 + (i + 1)) r) ∧ TreeOk (66 * 2 ^ (i + 1) - 2) (10 + (i + 1)) tree' ∧ SrcAt s l ∧ Gr [l] st s) Q := by
        rw [p1]
        intro s b1 b2
        refine seq_mid (fun e t => ∃ x : Int, e = ([some (scr ns), some (PV.loc l), some g, some (PV.int (0 + (i : Int))), some (PV.tup rows'), some tree', some (PV.loc (t.length - 1)), c] : PEnv) ∧ t[t.length - 1]? = some (.lst [.int x]) ∧ st.length ≤ t.length - 1 ∧ SrcAt t l ∧ Gr [l] st t) ?_ ?_
        · simp only [sat_ok, sat_bind, sat_v, sat_c, sat_bin, sat_un, sat_test, sat_truth, sat_and, sat_or, sat_not, sat_yes, sat_andv, sat_notv, sat_chain, sat_nil, sat_cons, sat_args, sat_call, sat_callX, sat_meth, sat_one, sat_oNone, sat_oSome, sat_sl, sat_tup, sat_lst, sat_loc, ss_nil, ss_seq, ss_set, ss_expr, ss_ret, ss_retN, ss_if, ss_tg, ss_par, ss_sub, ss_for, sat_comp, setTg, setTgs, wipeP, sizeLine_eq, List.map_cons, List.map_nil, List.length_cons, List.length_nil, List.cons_append, List.nil_append, List.set_cons_zero, List.set_cons_succ, List.getElem?_cons_zero, List.getElem?_cons_succ, Nat.reduceAdd, Nat.reduceSub, Nat.reduceLeDiff, List.reduceReplicate, Option.some.injEq, exists_eq_left', true_and, and_true, Nat.zero_add]
          refine size_ok (c := 66 * p - 2) (by omega) 60 (10 + i) tree' s _ h3 (by omega) fun kk k1 k2 => ?_
          refine draw' b1 (by omega) (size_log (by omega) (by omega) k1 k2) fun r s2 _ _ hs2 g2 => ?_
          simp only [sat_ok, sat_bind, sat_v, sat_c, sat_bin, sat_un, sat_test, sat_truth, sat_and, sat_or, sat_not, sat_yes, sat_andv, sat_notv, sat_chain, sat_nil, sat_cons, sat_args, sat_call, sat_callX, sat_meth, sat_one, sat_oNone, sat_oSome, sat_sl, sat_tup, sat_lst, sat_loc, ss_nil, ss_seq, ss_set, ss_expr, ss_ret, ss_retN, ss_if, ss_tg, ss_par, ss_sub, ss_for, sat_comp, setTg, setTgs, wipeP, sizeLine_eq, List.map_cons, List.map_nil, List.length_cons, List.length_nil, List.cons_append, List.nil_append, List.set_cons_zero, List.set_cons_succ, List.getElem?_cons_zero, List.getElem?_cons_succ, Nat.reduceAdd, Nat.reduceSub, Nat.reduceLeDiff, List.reduceReplicate, Option.some.injEq, exists_eq_left', true_and, and_true, Nat.zero_add, o_addI, o_addS, o_addT, o_addL, o_subI, o_mulI, o_fdivI, o_modI, o_powI, o_negI, o_eqI, o_neI, o_eqS, o_neS, o_ltI, o_gtI, o_leI, o_geI, o_ltS, o_geS, o_inS, o_notInS, o_isN, o_isNotN, o_isT, o_isNotT, o_isS, o_isNotS, o_int, o_intB, o_abs, o_str, o_lenT, o_lenL, o_lenF, o_lenS, o_ixT, o_ixL, o_ixF, ixW_0, ixW_1, ixW_2, o_isStr, o_tupL, o_tupT, o_listT, o_listL, o_listLocT, o_gcd, o_bits, o_finF, o_finT, sat_iVal, sat_iEnum, sat_iRange1, sat_iRange2, o_itT, o_itL, o_itF, o_itS, o_enT, o_rng]
          have := b2.len
          have := g2.len
          exact ⟨1 + r, by simp, by simp, by simp; omega, hs2.gr (L := []) .app (by simp), (b2.trans g2).trans .app⟩
        rintro e t ⟨x, rfl, t1, t2, t3, t4⟩
        have hll := t3.lt
        have hlt := lt_of_some t1
        have hsl := hs.lt
        generalize hm : t.length - 1 = m at *
        refine seq_mid (fun e t' => ∃ sp : PV, e = ([some (scr ns), some (PV.loc l), some g, some (PV.int (0 + (i : Int))), some (PV.tup rows'), some tree', some (PV.loc m), some sp] : PEnv) ∧ TreeOk (2 * (66 * p - 2) + 2) (10 + i + 1) sp ∧ SrcAt t' l ∧ Gr [l] st t') ?_ ?_
        · simp only [sat_ok, sat_bind, sat_v, sat_c, sat_bin, sat_un, sat_test, sat_truth, sat_and, sat_or, sat_not, sat_yes, sat_andv, sat_notv, sat_chain, sat_nil, sat_cons, sat_args, sat_call, sat_callX, sat_meth, sat_one, sat_oNone, sat_oSome, sat_sl, sat_tup, sat_lst, sat_loc, ss_nil, ss_seq, ss_set, ss_expr, ss_ret, ss_retN, ss_if, ss_tg, ss_par, ss_sub, ss_for, sat_comp, setTg, setTgs, wipeP, sizeLine_eq, List.map_cons, List.map_nil, List.length_cons, List.length_nil, List.cons_append, List.nil_append, List.set_cons_zero, List.set_cons_succ, List.getElem?_cons_zero, List.getElem?_cons_succ, Nat.reduceAdd, Nat.reduceSub, Nat.reduceLeDiff, List.reduceReplicate, Option.some.injEq, exists_eq_left', true_and, and_true, Nat.zero_add]
          refine spoilt_tree_ok (us := []) (by omega) (by omega) 60 (10 + i) tree' t _ h3 (by omega) (by simp; omega) nofun t3 ⟨x, t1⟩ fun v s1 q1 q2 q3 q4 => ?_
          refine ⟨v, by simp, q1, q2, ?_⟩
          refine Gr.cut (L := [l, m]) (L' := [l]) ((t4.mono (by simp)).trans q4) ?_
          intro j hj hlt'
          simp only [List.mem_cons, List.not_mem_nil, or_false] at hj ⊢
          omega
        rintro e t' ⟨sp, rfl, q1, q2, q3⟩
        simp only [sat_ok, sat_bind, sat_v, sat_c, sat_bin, sat_un, sat_test, sat_truth, sat_and, sat_or, sat_not, sat_yes, sat_andv, sat_notv, sat_chain, sat_nil, sat_cons, sat_args, sat_call, sat_callX, sat_meth, sat_one, sat_oNone, sat_oSome, sat_sl, sat_tup, sat_lst, sat_loc, ss_nil, ss_seq, ss_set, ss_expr, ss_ret, ss_retN, ss_if, ss_tg, ss_par, ss_sub, ss_for, sat_comp, setTg, setTgs, wipeP, sizeLine_eq, List.map_cons, List.map_nil, List.length_cons, List.length_nil, List.cons_append, List.nil_append, List.set_cons_zero, List.set_cons_succ, List.getElem?_cons_zero, List.getElem?_cons_succ, Nat.reduceAdd, Nat.reduceSub, Nat.reduceLeDiff, List.reduceReplicate, Option.some.injEq, exists_eq_left', true_and, and_true, Nat.zero_add]
        refine size_ok (c := 2 * (66 * p - 2) + 2) (by omega) 60 (10 + i + 1) sp t' _ q1 (by omega) fun kk k1 k2 => ?_
        simp only [sat_ok, sat_bind, sat_v, sat_c, sat_bin, sat_un, sat_test, sat_truth, sat_and, sat_or, sat_not, sat_yes, sat_andv, sat_notv, sat_chain, sat_nil, sat_cons, sat_args, sat_call, sat_callX, sat_meth, sat_one, sat_oNone, sat_oSome, sat_sl, sat_tup, sat_lst, sat_loc, ss_nil, ss_seq, ss_set, ss_expr, ss_ret, ss_retN, ss_if, ss_tg, ss_par, ss_sub, ss_for, sat_comp, setTg, setTgs, wipeP, sizeLine_eq, List.map_cons, List.map_nil, List.length_cons, List.length_nil, List.cons_append, List.nil_append, List.set_cons_zero, List.set_cons_succ, List.getElem?_cons_zero, List.getElem?_cons_succ, Nat.reduceAdd, Nat.reduceSub, Nat.reduceLeDiff, List.reduceReplicate, Option.some.injEq, exists_eq_left', true_and, and_true, Nat.zero_add, o_addI, o_addS, o_addT, o_addL, o_subI, o_mulI, o_fdivI, o_modI, o_powI, o_negI, o_eqI, o_neI, o_eqS, o_neS, o_ltI, o_gtI, o_leI, o_geI, o_ltS, o_geS, o_inS, o_notInS, o_isN, o_isNotN, o_isT, o_isNotT, o_isS, o_isNotS, o_int, o_intB, o_abs, o_str, o_lenT, o_lenL, o_lenF, o_lenS, o_ixT, o_ixL, o_ixF, ixW_0, ixW_1, ixW_2, o_isStr, o_tupL, o_tupT, o_listT, o_listL, o_listLocT, o_gcd, o_bits, o_finF, o_finT, sat_iVal, sat_iEnum, sat_iRange1, sat_iRange2, o_itT, o_itL, o_itF, o_itS, o_enT, o_rng]
        split
        · exact ⟨rows', sp, _, _, _, rfl, by omega, fun x m => (h2 x m).mono (by omega), q1.mono (by omega) (by omega), q2, q3⟩
        · exact ⟨rows', tree', _, _, _, rfl, by omega, fun x m => (h2 x m).mono (by omega), h3.mono (by omega) (by omega), q2, q3⟩
      rw [ss_if]
      simp only [sat_and, sat_test, sat_bin, sat_v, sat_c, sat_args, sat_cons, sat_nil, sat_one, List.set_cons_zero, List.set_cons_succ, List.getElem?_cons_zero, List.getElem?_cons_succ, o_lenT, o_gtI, sat_truth, sat_call, List.length_cons, List.length_nil, Nat.reduceAdd, true_and]
      split
      · rename_i h
        have hne : rows' ≠ [] := by intro z; subst z; simp at h
        refine draw' h4 (by decide) (by decide) fun r s2 _ _ hs2 g2 => ?_
        simp only [o_addI, o_addS, o_addT, o_addL, o_subI, o_mulI, o_fdivI, o_modI, o_powI, o_negI, o_eqI, o_neI, o_eqS, o_neS, o_ltI, o_gtI, o_leI, o_geI, o_ltS, o_geS, o_inS, o_notInS, o_isN, o_isNotN, o_isT, o_isNotT, o_isS, o_isNotS, o_int, o_intB, o_abs, o_str, o_lenT, o_lenL, o_lenF, o_lenS, o_ixT, o_ixL, o_ixF, ixW_0, ixW_1, ixW_2, o_isStr, o_tupL, o_tupT, o_listT, o_listL, o_listLocT, o_gcd, o_bits, o_finF, o_finT, sat_iVal, sat_iEnum, sat_iRange1, sat_iRange2, o_itT, o_itL, o_itF, o_itS, o_enT, o_rng, sat_truth]
        split
        · simp only [sat_ok, sat_bind, sat_v, sat_c, sat_bin, sat_un, sat_test, sat_truth, sat_and, sat_or, sat_not, sat_yes, sat_andv, sat_notv, sat_chain, sat_nil, sat_cons, sat_args, sat_call, sat_callX, sat_meth, sat_one, sat_oNone, sat_oSome, sat_sl, sat_tup, sat_lst, sat_loc, ss_nil, ss_seq, ss_set, ss_expr, ss_ret, ss_retN, ss_if, ss_tg, ss_par, ss_sub, ss_for, sat_comp, setTg, setTgs, wipeP, sizeLine_eq, List.map_cons, List.map_nil, List.length_cons, List.length_nil, List.cons_append, List.nil_append, List.set_cons_zero, List.set_cons_succ, List.getElem?_cons_zero, List.getElem?_cons_succ, Nat.reduceAdd, Nat.reduceSub, Nat.reduceLeDiff, List.reduceReplicate, Option.some.injEq, exists_eq_left', true_and, and_true, Nat.zero_add]
          refine spoilt_rows_ok (c := 65 + i) hs2 hne (by omega) (by omega) (by omega) h2 fun rows2 s3 e1 e2 e3 e4 => ?_
          exact ⟨rows2, tree', _, _, _, rfl, by omega, fun x m => (e2 x m).mono (by omega), h3.mono (by omega) (by omega), e3, (h5.trans g2).trans e4⟩
        · exact other s2 hs2 (h5.trans g2)
      · simp only [Bool.false_eq_true, if_false]
        exact other s h4 h5
    · rintro e s ⟨rows', tree', a, b, c, rfl, h1, h2, h3, h4, h5⟩
      rw [rngs_len] at h1 h2 h3
      have hj : 0 + r.toNat ≤ 3 := by omega
      have p1 : 2 ^ (0 + r.toNat) ≤ 8 := Nat.le_trans (Nat.pow_le_pow_right (by decide) hj) (by decide)
      exact ⟨rows', tree', a, b, c, rfl, by omega, fun x m => (h2 x m).mono (by omega), h3.mono (by omega) (by omega), h4, h5⟩
  rintro e s ⟨rows', tree', a, b, c, rfl, h1, h2, h3, h4, h5⟩
  simp only [sat_ok, sat_bind, sat_v, sat_c, sat_bin, sat_un, sat_test, sat_truth, sat_and, sat_or, sat_not, sat_yes, sat_andv, sat_notv, sat_chain, sat_nil, sat_cons, sat_args, sat_call, sat_callX, sat_meth, sat_one, sat_oNone, sat_oSome, sat_sl, sat_tup, sat_lst, sat_loc, ss_nil, ss_seq, ss_set, ss_expr, ss_ret, ss_retN, ss_if, ss_tg, ss_par, ss_sub, ss_for, sat_comp, setTg, setTgs, wipeP, sizeLine_eq, List.map_cons, List.map_nil, List.length_cons, List.length_nil, List.cons_append, List.nil_append, List.set_cons_zero, List.set_cons_succ, List.getElem?_cons_zero, List.getElem?_cons_succ, Nat.reduceAdd, Nat.reduceSub, Nat.reduceLeDiff, List.reduceReplicate, Option.some.injEq, exists_eq_left', true_and, and_true, Nat.zero_add]
  exact k rows' tree' s h1 h2 h3 h4 h5
end PL
/-! PL, part M2: the wide games. -/
namespace PL
open PySem PySem.Spec PyProof.Rows L2
theorem cutS_len {z : Str} {lo hi : Option Int} : (cutS z lo hi).length ≤ z.length := by
  unfold cutS
  show (List.toArray _).size ≤ z.cps.size
  simp only [List.size_toArray, List.length_take, List.length_drop, Array.length_toList]
  omega
theorem strs_of {ys : List PV} {P : Str → Prop} (h : ∀ y ∈ ys, ∃ w, y = .str w ∧ P w) : ∃ ws : List Str, ys = ws.map .str ∧ ∀ w ∈ ws, P w := by
  induction ys with
  | nil => exact ⟨[], rfl, nofun⟩
  | cons y ys ih =>
    obtain ⟨w, rfl, hw⟩ := h y List.mem_cons_self
    obtain ⟨ws, rfl, hws⟩ := ih fun z m => h z (List.mem_cons_of_mem _ m)
    refine ⟨w :: ws, rfl, fun z m => ?_⟩
    rcases List.mem_cons.mp m with rfl | m
    · exact hw
    · exact hws z m
theorem join_ok {ws : List Str} {st : Store} {Q : PV → Store → Prop} (h1 : ∀ w ∈ ws, w.length = 1) (hn : ws.length ≤ 1000) (k : ∀ z : Str, z.length = ws.length → Q (.str z) st) : Sat (pJoin (.str "") [.lst (ws.map .str)] st) Q := by
  have e0 : ("" : Str).length = 0 := by decide +kernel
  have e1 : (ws.map (·.length)).sum = ws.length := by
    clear hn k
    induction ws with
    | nil => rfl
    | cons w ws ih => rw [List.map_cons, List.sum_cons, ih fun x m => h1 x (List.mem_cons_of_mem _ m), h1 w List.mem_cons_self, List.length_cons]; omega
  have : pJoin (.str "") [.lst (ws.map .str)] st = .ok (.str (Txt.join "" ws)) st := by
    unfold pJoin
    simp only [seqOf, strsOf_strs]
    rw [if_pos (by rw [e0, e1]; omega)]
  rw [this, sat_ok]
  exact k _ (PySem.W.KT.join_ones ws h1)
theorem o_slS {z : Str} {lo hi : Option Int} {st : Store} {Q : PV → Store → Prop} : Sat (pSl (.str z) lo hi st) Q = (z.length ≤ sizeLine ∧ Q (.str (cutS z lo hi)) st) := by show Sat (if _ then _ else _) Q = _; rw [eq_if, sat_ok]
theorem len36 : ("abcdefghijklmnopqrstuvwxyz0123456789" : Str).length = 36 := by decide +kernel
theorem lenx : ("x" : Str).length = 1 := by decide +kernel
/-- name = base; for turn in range(len(used) + 1): if name in used: name = base[:10] + str(turn) -/
theorem wide_ok {ns : List Int} {l : Nat} {st : Store} {Q : PV → Store → Prop} (hs : SrcAt st l)
    (k : ∀ rows tree s, rows.length ≤ 40 → (∀ r ∈ rows, GRow r) → TreeOk 64 9 tree → SrcAt s l → Gr [l] st s → Q (.tup [.tup rows, tree]) s) : Sat (m_law_wide [scr ns, .loc l] st) Q := by
  refine sat_body ?_
  unfold f_law_wide
  simp only [List.map_cons, List.map_nil, List.length_cons, List.length_nil, Nat.reduceAdd, Nat.reduceSub, List.reduceReplicate, List.cons_append, List.nil_append]
  -- the signs, the stem
  refine seq_mid (fun e s => e = ([some (scr ns), some (PV.loc l), some (PV.str "abcdefghijklmnopqrstuvwxyz0123456789"), none, none, none, none, none, none, none, none, none, none, none, none, none, none] : PEnv) ∧ s = st) ?_ ?_
  · simp only [sat_ok, sat_bind, sat_v, sat_c, sat_bin, sat_un, sat_test, sat_truth, sat_and, sat_or, sat_not, sat_yes, sat_andv, sat_notv, sat_chain, sat_nil, sat_cons, sat_args, sat_call, sat_callX, sat_meth, sat_one, sat_oNone, sat_oSome, sat_sl, sat_tup, sat_lst, sat_loc, ss_nil, ss_seq, ss_set, ss_expr, ss_ret, ss_retN, ss_if, ss_tg, ss_par, ss_sub, ss_for, sat_comp, setTg, setTgs, wipeP, sizeLine_eq, List.map_cons, List.map_nil, List.length_cons, List.length_nil, List.cons_append, List.nil_append, List.set_cons_zero, List.set_cons_succ, List.getElem?_cons_zero, List.getElem?_cons_succ, Nat.reduceAdd, Nat.reduceSub, Nat.reduceLeDiff, List.reduceReplicate, Option.some.injEq, exists_eq_left', true_and, and_true, Nat.zero_add]
  rintro e st ⟨rfl, rfl⟩
  have hl36 := len36
  generalize hsg : ("abcdefghijklmnopqrstuvwxyz0123456789" : Str) = sg at *
  refine seq_mid (fun e s => ∃ stem : Str, stem.length = 9 ∧ e = ([some (scr ns), some (PV.loc l), some (PV.str sg), some (PV.str stem), none, none, none, none, none, none, none, none, none, none, none, none, none] : PEnv) ∧ SrcAt s l ∧ Gr [l] st s) ?_ ?_
  · simp only [sat_ok, sat_bind, sat_v, sat_c, sat_bin, sat_un, sat_test, sat_truth, sat_and, sat_or, sat_not, sat_yes, sat_andv, sat_notv, sat_chain, sat_nil, sat_cons, sat_args, sat_call, sat_callX, sat_meth, sat_one, sat_oNone, sat_oSome, sat_sl, sat_tup, sat_lst, sat_loc, ss_nil, ss_seq, ss_set, ss_expr, ss_ret, ss_retN, ss_if, ss_tg, ss_par, ss_sub, ss_for, sat_comp, setTg, setTgs, wipeP, sizeLine_eq, List.map_cons, List.map_nil, List.length_cons, List.length_nil, List.cons_append, List.nil_append, List.set_cons_zero, List.set_cons_succ, List.getElem?_cons_zero, List.getElem?_cons_succ, Nat.reduceAdd, Nat.reduceSub, Nat.reduceLeDiff, List.reduceReplicate, Option.some.injEq, exists_eq_left', true_and, and_true, Nat.zero_add, o_addI, o_addS, o_addT, o_addL, o_subI, o_mulI, o_fdivI, o_modI, o_powI, o_negI, o_eqI, o_neI, o_eqS, o_neS, o_ltI, o_gtI, o_leI, o_geI, o_ltS, o_geS, o_inS, o_notInS, o_isN, o_isNotN, o_isT, o_isNotT, o_isS, o_isNotS, o_int, o_intB, o_abs, o_str, o_lenT, o_lenL, o_lenF, o_lenS, o_ixT, o_ixL, o_ixF, ixW_0, ixW_1, ixW_2, o_isStr, o_tupL, o_tupT, o_listT, o_listL, o_listLocT, o_gcd, o_bits, o_finF, o_finT, sat_iVal, sat_iEnum, sat_iRange1, sat_iRange2, o_itT, o_itL, o_itF, o_itS, o_enT, o_rng]
    refine ⟨⟨by decide, by decide⟩, ?_⟩
    refine comp_rng (fun y => ∃ w, y = .str w ∧ w.length = 1) (fun t => SrcAt t l ∧ Gr [l] st t) (by simp) (by decide) ⟨hs, .refl⟩ ?_ ?_
    · rintro j t ⟨a1, a2⟩
      simp only [sat_ok, sat_bind, sat_v, sat_c, sat_bin, sat_un, sat_test, sat_truth, sat_and, sat_or, sat_not, sat_yes, sat_andv, sat_notv, sat_chain, sat_nil, sat_cons, sat_args, sat_call, sat_callX, sat_meth, sat_one, sat_oNone, sat_oSome, sat_sl, sat_tup, sat_lst, sat_loc, ss_nil, ss_seq, ss_set, ss_expr, ss_ret, ss_retN, ss_if, ss_tg, ss_par, ss_sub, ss_for, sat_comp, setTg, setTgs, wipeP, sizeLine_eq, List.map_cons, List.map_nil, List.length_cons, List.length_nil, List.cons_append, List.nil_append, List.set_cons_zero, List.set_cons_succ, List.getElem?_cons_zero, List.getElem?_cons_succ, Nat.reduceAdd, Nat.reduceSub, Nat.reduceLeDiff, List.reduceReplicate, Option.some.injEq, exists_eq_left', true_and, and_true, Nat.zero_add]
      refine draw' a1 (by decide) (by decide) fun r t2 c0 c1 ht f => ?_
      exact ixS_in (by rw [hl36]; exact sl16 (by decide)) c0 (by rw [hl36]; omega) fun c => ⟨⟨_, rfl, len1⟩, ht, a2.trans f⟩
    · rintro ys t hl' hE ⟨a1, a2⟩
      obtain ⟨ws, rfl, hw⟩ := strs_of hE
      rw [List.length_map] at hl'
      try simp only [sat_ok, sat_bind, sat_v, sat_c, sat_bin, sat_un, sat_test, sat_truth, sat_and, sat_or, sat_not, sat_yes, sat_andv, sat_notv, sat_chain, sat_nil, sat_cons, sat_args, sat_call, sat_callX, sat_meth, sat_one, sat_oNone, sat_oSome, sat_sl, sat_tup, sat_lst, sat_loc, ss_nil, ss_seq, ss_set, ss_expr, ss_ret, ss_retN, ss_if, ss_tg, ss_par, ss_sub, ss_for, sat_comp, setTg, setTgs, wipeP, sizeLine_eq, List.map_cons, List.map_nil, List.length_cons, List.length_nil, List.cons_append, List.nil_append, List.set_cons_zero, List.set_cons_succ, List.getElem?_cons_zero, List.getElem?_cons_succ, Nat.reduceAdd, Nat.reduceSub, Nat.reduceLeDiff, List.reduceReplicate, Option.some.injEq, exists_eq_left', true_and, and_true, Nat.zero_add, o_addI, o_addS, o_addT, o_addL, o_subI, o_mulI, o_fdivI, o_modI, o_powI, o_negI, o_eqI, o_neI, o_eqS, o_neS, o_ltI, o_gtI, o_leI, o_geI, o_ltS, o_geS, o_inS, o_notInS, o_isN, o_isNotN, o_isT, o_isNotT, o_isS, o_isNotS, o_int, o_intB, o_abs, o_str, o_lenT, o_lenL, o_lenF, o_lenS, o_ixT, o_ixL, o_ixF, ixW_0, ixW_1, ixW_2, o_isStr, o_tupL, o_tupT, o_listT, o_listL, o_listLocT, o_gcd, o_bits, o_finF, o_finT, sat_iVal, sat_iEnum, sat_iRange1, sat_iRange2, o_itT, o_itL, o_itF, o_itS, o_enT, o_rng]
      exact join_ok hw (by rw [hl']; decide) fun z hz => ⟨z, by rw [hz, hl']; rfl, rfl, a1, a2⟩
  rintro e s1 ⟨stem, hstem, rfl, hs1, g1⟩
  have hl1 := hs1.lt
  refine seq_mid (fun e s => e = ([some (scr ns), some (PV.loc l), some (PV.str sg), some (PV.str stem), some (PV.loc s1.length), none, none, none, none, none, none, none, none, none, none, none, none] : PEnv) ∧ s = s1 ++ [.lst []]) ?_ ?_
  · simp only [sat_ok, sat_bind, sat_v, sat_c, sat_bin, sat_un, sat_test, sat_truth, sat_and, sat_or, sat_not, sat_yes, sat_andv, sat_notv, sat_chain, sat_nil, sat_cons, sat_args, sat_call, sat_callX, sat_meth, sat_one, sat_oNone, sat_oSome, sat_sl, sat_tup, sat_lst, sat_loc, ss_nil, ss_seq, ss_set, ss_expr, ss_ret, ss_retN, ss_if, ss_tg, ss_par, ss_sub, ss_for, sat_comp, setTg, setTgs, wipeP, sizeLine_eq, List.map_cons, List.map_nil, List.length_cons, List.length_nil, List.cons_append, List.nil_append, List.set_cons_zero, List.set_cons_succ, List.getElem?_cons_zero, List.getElem?_cons_succ, Nat.reduceAdd, Nat.reduceSub, Nat.reduceLeDiff, List.reduceReplicate, Option.some.injEq, exists_eq_left', true_and, and_true, Nat.zero_add]
  rintro e s2 ⟨rfl, rfl⟩
  refine seq_mid (fun e s => e = ([some (scr ns), some (PV.loc l), some (PV.str sg), some (PV.str stem), some (PV.loc s1.length), some (PV.loc (s1.length + 1)), none, none, none, none, none, none, none, none, none, none, none] : PEnv) ∧ s = s1 ++ [.lst []] ++ [.lst []]) ?_ ?_
  · simp only [sat_ok, sat_bind, sat_v, sat_c, sat_bin, sat_un, sat_test, sat_truth, sat_and, sat_or, sat_not, sat_yes, sat_andv, sat_notv, sat_chain, sat_nil, sat_cons, sat_args, sat_call, sat_callX, sat_meth, sat_one, sat_oNone, sat_oSome, sat_sl, sat_tup, sat_lst, sat_loc, ss_nil, ss_seq, ss_set, ss_expr, ss_ret, ss_retN, ss_if, ss_tg, ss_par, ss_sub, ss_for, sat_comp, setTg, setTgs, wipeP, sizeLine_eq, List.map_cons, List.map_nil, List.length_cons, List.length_nil, List.cons_append, List.nil_append, List.set_cons_zero, List.set_cons_succ, List.getElem?_cons_zero, List.getElem?_cons_succ, Nat.reduceAdd, Nat.reduceSub, Nat.reduceLeDiff, List.reduceReplicate, Option.some.injEq, exists_eq_left', true_and, and_true, Nat.zero_add, List.length_append]
  rintro e s2 ⟨rfl, rfl⟩
  have s0 : SrcAt (s1 ++ [.lst []] ++ [.lst []]) l := by
    rw [List.append_assoc]; exact hs1.gr (L := []) .app (by simp)
  have g0 : Gr [l] st (s1 ++ [.lst []] ++ [.lst []]) := by rw [List.append_assoc]; exact g1.trans .app
  have r0 : (s1 ++ [.lst []] ++ [.lst []])[s1.length]? = some (.lst []) := by simp
  have u0 : (s1 ++ [.lst []] ++ [.lst []])[s1.length + 1]? = some (.lst []) := by simp
  have hlen1 := g1.len
  generalize hrp : s1.length = rp at *
  generalize s1 ++ [PO.lst []] ++ [PO.lst []] = st0 at *
  have nrl : rp ∉ [l] := by simp; omega
  have nul : rp + 1 ∉ [l] := by simp; omega
  refine seq_mid (fun e s => ∃ (rows : List PV) (us : List Str) (kk k7 k8 k9 k10 k11 k12 k13 k14 k15 : Option PV), e = ([some (scr ns), some (PV.loc l), some (PV.str sg), some (PV.str stem), some (PV.loc rp), some (PV.loc (rp + 1)), kk, none, k8, k9, k10, k11, k12, k13, k14, k15, none] : PEnv) ∧ 1 ≤ rows.length ∧ rows.length ≤ 40 ∧ us.length = rows.length ∧ (∀ u ∈ us, u.length ≤ 40) ∧
      s[rp]? = some (.lst rows) ∧ s[rp + 1]? = some (.lst (us.map .str)) ∧ (∀ r ∈ rows, GRow r) ∧ SrcAt s l ∧ Gr [l, rp, rp + 1] st0 s) ?_ ?_
  · simp only [sat_ok, sat_bind, sat_v, sat_c, sat_bin, sat_un, sat_test, sat_truth, sat_and, sat_or, sat_not, sat_yes, sat_andv, sat_notv, sat_chain, sat_nil, sat_cons, sat_args, sat_call, sat_callX, sat_meth, sat_one, sat_oNone, sat_oSome, sat_sl, sat_tup, sat_lst, sat_loc, ss_nil, ss_seq, ss_set, ss_expr, ss_ret, ss_retN, ss_if, ss_tg, ss_par, ss_sub, ss_for, sat_comp, setTg, setTgs, wipeP, sizeLine_eq, List.map_cons, List.map_nil, List.length_cons, List.length_nil, List.cons_append, List.nil_append, List.set_cons_zero, List.set_cons_succ, List.getElem?_cons_zero, List.getElem?_cons_succ, Nat.reduceAdd, Nat.reduceSub, Nat.reduceLeDiff, List.reduceReplicate, Option.some.injEq, exists_eq_left', true_and, and_true, Nat.zero_add, o_addI, o_addS, o_addT, o_addL, o_subI, o_mulI, o_fdivI, o_modI, o_powI, o_negI, o_eqI, o_neI, o_eqS, o_neS, o_ltI, o_gtI, o_leI, o_geI, o_ltS, o_geS, o_inS, o_notInS, o_isN, o_isNotN, o_isT, o_isNotT, o_isS, o_isNotS, o_int, o_intB, o_abs, o_str, o_lenT, o_lenL, o_lenF, o_lenS, o_ixT, o_ixL, o_ixF, ixW_0, ixW_1, ixW_2, o_isStr, o_tupL, o_tupT, o_listT, o_listL, o_listLocT, o_gcd, o_bits, o_finF, o_finT, sat_iVal, sat_iEnum, sat_iRange1, sat_iRange2, o_itT, o_itL, o_itF, o_itS, o_enT, o_rng]
    refine draw' s0 (by decide) (by decide) fun q0 t0 b0 b1 ht0 f0 => ?_
    simp only [o_addI, o_addS, o_addT, o_addL, o_subI, o_mulI, o_fdivI, o_modI, o_powI, o_negI, o_eqI, o_neI, o_eqS, o_neS, o_ltI, o_gtI, o_leI, o_geI, o_ltS, o_geS, o_inS, o_notInS, o_isN, o_isNotN, o_isT, o_isNotT, o_isS, o_isNotS, o_int, o_intB, o_abs, o_str, o_lenT, o_lenL, o_lenF, o_lenS, o_ixT, o_ixL, o_ixF, ixW_0, ixW_1, ixW_2, o_isStr, o_tupL, o_tupT, o_listT, o_listL, o_listLocT, o_gcd, o_bits, o_finF, o_finT, sat_iVal, sat_iEnum, sat_iRange1, sat_iRange2, o_itT, o_itL, o_itF, o_itS, o_enT, o_rng]
    refine draw' ht0 (by decide) (by decide) fun q1 t1 b2 b3 ht1 f1 => ?_
    simp only [o_addI, o_addS, o_addT, o_addL, o_subI, o_mulI, o_fdivI, o_modI, o_powI, o_negI, o_eqI, o_neI, o_eqS, o_neS, o_ltI, o_gtI, o_leI, o_geI, o_ltS, o_geS, o_inS, o_notInS, o_isN, o_isNotN, o_isT, o_isNotT, o_isS, o_isNotS, o_int, o_intB, o_abs, o_str, o_lenT, o_lenL, o_lenF, o_lenS, o_ixT, o_ixL, o_ixF, ixW_0, ixW_1, ixW_2, o_isStr, o_tupL, o_tupT, o_listT, o_listL, o_listLocT, o_gcd, o_bits, o_finF, o_finT, sat_iVal, sat_iEnum, sat_iRange1, sat_iRange2, o_itT, o_itL, o_itF, o_itS, o_enT, o_rng]
    refine draw_len b2 (by show q1 < 4; exact b3) fun y hy => ?_
    obtain ⟨tot, rfl, ht1', ht2'⟩ : ∃ c : Int, y = .int c ∧ 1 ≤ c ∧ c ≤ 40 := by
      simp only [List.mem_cons, List.not_mem_nil, or_false] at hy
      rcases hy with rfl | rfl | rfl | rfl
      · exact ⟨_, rfl, by decide, by decide⟩
      · exact ⟨_, rfl, by decide, by decide⟩
      · exact ⟨_, rfl, by decide, by decide⟩
      · exact ⟨_, rfl, by omega, by omega⟩
    simp only [o_addI, o_addS, o_addT, o_addL, o_subI, o_mulI, o_fdivI, o_modI, o_powI, o_negI, o_eqI, o_neI, o_eqS, o_neS, o_ltI, o_gtI, o_leI, o_geI, o_ltS, o_geS, o_inS, o_notInS, o_isN, o_isNotN, o_isT, o_isNotT, o_isS, o_isNotS, o_int, o_intB, o_abs, o_str, o_lenT, o_lenL, o_lenF, o_lenS, o_ixT, o_ixL, o_ixF, ixW_0, ixW_1, ixW_2, o_isStr, o_tupL, o_tupT, o_listT, o_listL, o_listLocT, o_gcd, o_bits, o_finF, o_finT, sat_iVal, sat_iEnum, sat_iRange1, sat_iRange2, o_itT, o_itL, o_itF, o_itS, o_enT, o_rng]
    refine ⟨⟨by omega, by omega⟩, ?_⟩
    have f01 := f0.trans f1
    refine for_invN (k := 0) (fun i e s => ∃ (rows : List PV) (us : List Str) (kk k8 k9 k10 k11 k12 k13 k14 k15 : Option PV), e = ([some (scr ns), some (PV.loc l), some (PV.str sg), some (PV.str stem), some (PV.loc rp), some (PV.loc (rp + 1)), kk, none, k8, k9, k10, k11, k12, k13, k14, k15, none] : PEnv) ∧ rows.length = i ∧ us.length = i ∧ (∀ u ∈ us, u.length ≤ 40) ∧
      s[rp]? = some (.lst rows) ∧ s[rp + 1]? = some (.lst (us.map .str)) ∧ (∀ r ∈ rows, GRow r) ∧ SrcAt s l ∧ Gr [l, rp, rp + 1] st0 s)
      ⟨[], [], _, _, _, _, _, _, _, _, _, rfl, rfl, rfl, nofun, f01.at' r0 nrl, f01.at' u0 nul, nofun, ht1, f01.mono (by simp)⟩ ?_ ?_
    · rintro i v e s hv ⟨rows, us, kk, k8, k9, k10, k11, k12, k13, k14, k15, rfl, hr1, hu1, hul, hr, hu, hg, hss, g2⟩
      obtain ⟨hi, rfl⟩ := rngs_get hv
      have hi : i < 40 := by omega
      rw [Nat.zero_add] at hr1 hu1 ⊢
      refine ⟨_, rfl, ?_⟩
      refine seq_mid (fun e t => ∃ cnt : Int, 1 ≤ cnt ∧ cnt ≤ 64 ∧ e = ([some (scr ns), some (PV.loc l), some (PV.str sg), some (PV.str stem), some (PV.loc rp), some (PV.loc (rp + 1)), some (PV.int (0 + (i : Int))), none, some (PV.int cnt), k9, k10, k11, k12, k13, k14, k15, none] : PEnv) ∧ SrcAt t l ∧ Gr [l] s t) ?_ ?_
      · simp only [sat_ok, sat_bind, sat_v, sat_c, sat_bin, sat_un, sat_test, sat_truth, sat_and, sat_or, sat_not, sat_yes, sat_andv, sat_notv, sat_chain, sat_nil, sat_cons, sat_args, sat_call, sat_callX, sat_meth, sat_one, sat_oNone, sat_oSome, sat_sl, sat_tup, sat_lst, sat_loc, ss_nil, ss_seq, ss_set, ss_expr, ss_ret, ss_retN, ss_if, ss_tg, ss_par, ss_sub, ss_for, sat_comp, setTg, setTgs, wipeP, sizeLine_eq, List.map_cons, List.map_nil, List.length_cons, List.length_nil, List.cons_append, List.nil_append, List.set_cons_zero, List.set_cons_succ, List.getElem?_cons_zero, List.getElem?_cons_succ, Nat.reduceAdd, Nat.reduceSub, Nat.reduceLeDiff, List.reduceReplicate, Option.some.injEq, exists_eq_left', true_and, and_true, Nat.zero_add, o_addI, o_addS, o_addT, o_addL, o_subI, o_mulI, o_fdivI, o_modI, o_powI, o_negI, o_eqI, o_neI, o_eqS, o_neS, o_ltI, o_gtI, o_leI, o_geI, o_ltS, o_geS, o_inS, o_notInS, o_isN, o_isNotN, o_isT, o_isNotT, o_isS, o_isNotS, o_int, o_intB, o_abs, o_str, o_lenT, o_lenL, o_lenF, o_lenS, o_ixT, o_ixL, o_ixF, ixW_0, ixW_1, ixW_2, o_isStr, o_tupL, o_tupT, o_listT, o_listL, o_listLocT, o_gcd, o_bits, o_finF, o_finT, sat_iVal, sat_iEnum, sat_iRange1, sat_iRange2, o_itT, o_itL, o_itF, o_itS, o_enT, o_rng]
        refine draw' hss (by decide) (by decide) fun q2 t2 c0 c1 ht2 f2 => ?_
        simp only [o_addI, o_addS, o_addT, o_addL, o_subI, o_mulI, o_fdivI, o_modI, o_powI, o_negI, o_eqI, o_neI, o_eqS, o_neS, o_ltI, o_gtI, o_leI, o_geI, o_ltS, o_geS, o_inS, o_notInS, o_isN, o_isNotN, o_isT, o_isNotT, o_isS, o_isNotS, o_int, o_intB, o_abs, o_str, o_lenT, o_lenL, o_lenF, o_lenS, o_ixT, o_ixL, o_ixF, ixW_0, ixW_1, ixW_2, o_isStr, o_tupL, o_tupT, o_listT, o_listL, o_listLocT, o_gcd, o_bits, o_finF, o_finT, sat_iVal, sat_iEnum, sat_iRange1, sat_iRange2, o_itT, o_itL, o_itF, o_itS, o_enT, o_rng]
        refine draw' ht2 (by decide) (by decide) fun q3 t3 c2 c3 ht3 f3 => ?_
        simp only [o_addI, o_addS, o_addT, o_addL, o_subI, o_mulI, o_fdivI, o_modI, o_powI, o_negI, o_eqI, o_neI, o_eqS, o_neS, o_ltI, o_gtI, o_leI, o_geI, o_ltS, o_geS, o_inS, o_notInS, o_isN, o_isNotN, o_isT, o_isNotT, o_isS, o_isNotS, o_int, o_intB, o_abs, o_str, o_lenT, o_lenL, o_lenF, o_lenS, o_ixT, o_ixL, o_ixF, ixW_0, ixW_1, ixW_2, o_isStr, o_tupL, o_tupT, o_listT, o_listL, o_listLocT, o_gcd, o_bits, o_finF, o_finT, sat_iVal, sat_iEnum, sat_iRange1, sat_iRange2, o_itT, o_itL, o_itF, o_itS, o_enT, o_rng]
        refine draw_len c2 (by show q3 < 8; exact c3) fun y hy => ?_
        obtain ⟨c, rfl, d1, d2⟩ : ∃ c : Int, y = .int c ∧ 1 ≤ c ∧ c ≤ 64 := by
          simp only [List.mem_cons, List.not_mem_nil, or_false] at hy
          rcases hy with rfl | rfl | rfl | rfl | rfl | rfl | rfl | rfl <;> exact ⟨_, rfl, by omega, by omega⟩
        exact ⟨c, d1, d2, rfl, ht3, f2.trans f3⟩
      rintro e t ⟨cnt, cn1, cn2, rfl, ht, f⟩
      refine seq_mid (fun e t => ∃ ow : Int, e = ([some (scr ns), some (PV.loc l), some (PV.str sg), some (PV.str stem), some (PV.loc rp), some (PV.loc (rp + 1)), some (PV.int (0 + (i : Int))), none, some (PV.int cnt), some (PV.int ow), k10, k11, k12, k13, k14, k15, none] : PEnv) ∧ SrcAt t l ∧ Gr [l] s t) ?_ ?_
      · simp only [sat_ok, sat_bind, sat_v, sat_c, sat_bin, sat_un, sat_test, sat_truth, sat_and, sat_or, sat_not, sat_yes, sat_andv, sat_notv, sat_chain, sat_nil, sat_cons, sat_args, sat_call, sat_callX, sat_meth, sat_one, sat_oNone, sat_oSome, sat_sl, sat_tup, sat_lst, sat_loc, ss_nil, ss_seq, ss_set, ss_expr, ss_ret, ss_retN, ss_if, ss_tg, ss_par, ss_sub, ss_for, sat_comp, setTg, setTgs, wipeP, sizeLine_eq, List.map_cons, List.map_nil, List.length_cons, List.length_nil, List.cons_append, List.nil_append, List.set_cons_zero, List.set_cons_succ, List.getElem?_cons_zero, List.getElem?_cons_succ, Nat.reduceAdd, Nat.reduceSub, Nat.reduceLeDiff, List.reduceReplicate, Option.some.injEq, exists_eq_left', true_and, and_true, Nat.zero_add, o_addI, o_addS, o_addT, o_addL, o_subI, o_mulI, o_fdivI, o_modI, o_powI, o_negI, o_eqI, o_neI, o_eqS, o_neS, o_ltI, o_gtI, o_leI, o_geI, o_ltS, o_geS, o_inS, o_notInS, o_isN, o_isNotN, o_isT, o_isNotT, o_isS, o_isNotS, o_int, o_intB, o_abs, o_str, o_lenT, o_lenL, o_lenF, o_lenS, o_ixT, o_ixL, o_ixF, ixW_0, ixW_1, ixW_2, o_isStr, o_tupL, o_tupT, o_listT, o_listL, o_listLocT, o_gcd, o_bits, o_finF, o_finT, sat_iVal, sat_iEnum, sat_iRange1, sat_iRange2, o_itT, o_itL, o_itF, o_itS, o_enT, o_rng]
        exact draw' ht (by decide) (by decide) fun q t2 _ _ ht2 f2 => ⟨q, rfl, ht2, f.trans f2⟩
      rintro e t ⟨ow, rfl, ht, f⟩
      refine seq_mid (fun e t => ∃ (wp : Nat) (ws : List Int), e = ([some (scr ns), some (PV.loc l), some (PV.str sg), some (PV.str stem), some (PV.loc rp), some (PV.loc (rp + 1)), some (PV.int (0 + (i : Int))), none, some (PV.int cnt), some (PV.int ow), some (PV.loc wp), k11, k12, k13, k14, k15, none] : PEnv) ∧ t[wp]? = some (.lst (ints' ws)) ∧ s.length ≤ wp ∧ (ws.length : Int) = cnt ∧ (∀ w ∈ ws, Mod1 w) ∧ SrcAt t l ∧ Gr [l] s t) ?_ ?_
      · simp only [sat_ok, sat_bind, sat_v, sat_c, sat_bin, sat_un, sat_test, sat_truth, sat_and, sat_or, sat_not, sat_yes, sat_andv, sat_notv, sat_chain, sat_nil, sat_cons, sat_args, sat_call, sat_callX, sat_meth, sat_one, sat_oNone, sat_oSome, sat_sl, sat_tup, sat_lst, sat_loc, ss_nil, ss_seq, ss_set, ss_expr, ss_ret, ss_retN, ss_if, ss_tg, ss_par, ss_sub, ss_for, sat_comp, setTg, setTgs, wipeP, sizeLine_eq, List.map_cons, List.map_nil, List.length_cons, List.length_nil, List.cons_append, List.nil_append, List.set_cons_zero, List.set_cons_succ, List.getElem?_cons_zero, List.getElem?_cons_succ, Nat.reduceAdd, Nat.reduceSub, Nat.reduceLeDiff, List.reduceReplicate, Option.some.injEq, exists_eq_left', true_and, and_true, Nat.zero_add, o_addI, o_addS, o_addT, o_addL, o_subI, o_mulI, o_fdivI, o_modI, o_powI, o_negI, o_eqI, o_neI, o_eqS, o_neS, o_ltI, o_gtI, o_leI, o_geI, o_ltS, o_geS, o_inS, o_notInS, o_isN, o_isNotN, o_isT, o_isNotT, o_isS, o_isNotS, o_int, o_intB, o_abs, o_str, o_lenT, o_lenL, o_lenF, o_lenS, o_ixT, o_ixL, o_ixF, ixW_0, ixW_1, ixW_2, o_isStr, o_tupL, o_tupT, o_listT, o_listL, o_listLocT, o_gcd, o_bits, o_finF, o_finT, sat_iVal, sat_iEnum, sat_iRange1, sat_iRange2, o_itT, o_itL, o_itF, o_itS, o_enT, o_rng]
        refine ⟨⟨by omega, by omega⟩, ?_⟩
        refine comp_rng (fun y => ∃ w, y = .int w ∧ Mod1 w) (fun t' => t' = t) (by simp) (by omega) rfl ?_ ?_
        · rintro j t' rfl
          simp only [sat_ok, sat_bind, sat_v, sat_c, sat_bin, sat_un, sat_test, sat_truth, sat_and, sat_or, sat_not, sat_yes, sat_andv, sat_notv, sat_chain, sat_nil, sat_cons, sat_args, sat_call, sat_callX, sat_meth, sat_one, sat_oNone, sat_oSome, sat_sl, sat_tup, sat_lst, sat_loc, ss_nil, ss_seq, ss_set, ss_expr, ss_ret, ss_retN, ss_if, ss_tg, ss_par, ss_sub, ss_for, sat_comp, setTg, setTgs, wipeP, sizeLine_eq, List.map_cons, List.map_nil, List.length_cons, List.length_nil, List.cons_append, List.nil_append, List.set_cons_zero, List.set_cons_succ, List.getElem?_cons_zero, List.getElem?_cons_succ, Nat.reduceAdd, Nat.reduceSub, Nat.reduceLeDiff, List.reduceReplicate, Option.some.injEq, exists_eq_left', true_and, and_true, Nat.zero_add]
          exact ⟨1, rfl, mod1_small (by decide) (by decide)⟩
        · rintro ys t' hl' hE rfl
          obtain ⟨ws, rfl, hw⟩ := ints_of hE
          try simp only [o_addI, o_addS, o_addT, o_addL, o_subI, o_mulI, o_fdivI, o_modI, o_powI, o_negI, o_eqI, o_neI, o_eqS, o_neS, o_ltI, o_gtI, o_leI, o_geI, o_ltS, o_geS, o_inS, o_notInS, o_isN, o_isNotN, o_isT, o_isNotT, o_isS, o_isNotS, o_int, o_intB, o_abs, o_str, o_lenT, o_lenL, o_lenF, o_lenS, o_ixT, o_ixL, o_ixF, ixW_0, ixW_1, ixW_2, o_isStr, o_tupL, o_tupT, o_listT, o_listL, o_listLocT, o_gcd, o_bits, o_finF, o_finT, sat_iVal, sat_iEnum, sat_iRange1, sat_iRange2, o_itT, o_itL, o_itF, o_itS, o_enT, o_rng]
          have := f.len
          exact ⟨_, ws, rfl, by simp, by omega, by rw [List.length_map] at hl'; omega, hw, ht.gr (L := []) .app (by simp), f.trans .app⟩
      rintro e t ⟨wp, ws, rfl, hwp, hwn, hwl, hwm, ht, f⟩
      refine seq_mid (fun e t => ∃ (wp : Nat) (ws : List Int) (k14 k15 : Option PV), e = ([some (scr ns), some (PV.loc l), some (PV.str sg), some (PV.str stem), some (PV.loc rp), some (PV.loc (rp + 1)), some (PV.int (0 + (i : Int))), none, some (PV.int cnt), some (PV.int ow), some (PV.loc wp), k11, k12, k13, k14, k15, none] : PEnv) ∧ t[wp]? = some (.lst (ints' ws)) ∧ s.length ≤ wp ∧ (ws.length : Int) = cnt ∧ (∀ w ∈ ws, Mod1 w) ∧ SrcAt t l ∧ Gr [l] s t) ?_ ?_
      · rw [ss_if]
        simp only [sat_test, sat_bin, sat_v, sat_c, List.getElem?_cons_zero, List.getElem?_cons_succ, o_eqI, sat_truth]
        split
        · refine seq_mid (fun e t => ∃ (wp : Nat) (ws : List Int), e = ([some (scr ns), some (PV.loc l), some (PV.str sg), some (PV.str stem), some (PV.loc rp), some (PV.loc (rp + 1)), some (PV.int (0 + (i : Int))), none, some (PV.int cnt), some (PV.int ow), some (PV.loc wp), k11, k12, k13, k14, k15, none] : PEnv) ∧ t[wp]? = some (.lst (ints' ws)) ∧ s.length ≤ wp ∧ (ws.length : Int) = cnt ∧ (∀ w ∈ ws, Mod1 w) ∧ SrcAt t l ∧ Gr [l] s t) ?_ ?_
          · simp only [sat_ok, sat_bind, sat_v, sat_c, sat_bin, sat_un, sat_test, sat_truth, sat_and, sat_or, sat_not, sat_yes, sat_andv, sat_notv, sat_chain, sat_nil, sat_cons, sat_args, sat_call, sat_callX, sat_meth, sat_one, sat_oNone, sat_oSome, sat_sl, sat_tup, sat_lst, sat_loc, ss_nil, ss_seq, ss_set, ss_expr, ss_ret, ss_retN, ss_if, ss_tg, ss_par, ss_sub, ss_for, sat_comp, setTg, setTgs, wipeP, sizeLine_eq, List.map_cons, List.map_nil, List.length_cons, List.length_nil, List.cons_append, List.nil_append, List.set_cons_zero, List.set_cons_succ, List.getElem?_cons_zero, List.getElem?_cons_succ, Nat.reduceAdd, Nat.reduceSub, Nat.reduceLeDiff, List.reduceReplicate, Option.some.injEq, exists_eq_left', true_and, and_true, Nat.zero_add, o_addI, o_addS, o_addT, o_addL, o_subI, o_mulI, o_fdivI, o_modI, o_powI, o_negI, o_eqI, o_neI, o_eqS, o_neS, o_ltI, o_gtI, o_leI, o_geI, o_ltS, o_geS, o_inS, o_notInS, o_isN, o_isNotN, o_isT, o_isNotT, o_isS, o_isNotS, o_int, o_intB, o_abs, o_str, o_lenT, o_lenL, o_lenF, o_lenS, o_ixT, o_ixL, o_ixF, ixW_0, ixW_1, ixW_2, o_isStr, o_tupL, o_tupT, o_listT, o_listL, o_listLocT, o_gcd, o_bits, o_finF, o_finT, sat_iVal, sat_iEnum, sat_iRange1, sat_iRange2, o_itT, o_itL, o_itF, o_itS, o_enT, o_rng]
            refine ⟨⟨by omega, by omega⟩, ?_⟩
            refine comp_rng (fun y => ∃ w, y = .int w ∧ Mod1 w) (fun t' => SrcAt t' l ∧ Gr [l] s t') (by simp) (by omega) ⟨ht, f⟩ ?_ ?_
            · rintro j t' ⟨a1, a2⟩
              simp only [sat_ok, sat_bind, sat_v, sat_c, sat_bin, sat_un, sat_test, sat_truth, sat_and, sat_or, sat_not, sat_yes, sat_andv, sat_notv, sat_chain, sat_nil, sat_cons, sat_args, sat_call, sat_callX, sat_meth, sat_one, sat_oNone, sat_oSome, sat_sl, sat_tup, sat_lst, sat_loc, ss_nil, ss_seq, ss_set, ss_expr, ss_ret, ss_retN, ss_if, ss_tg, ss_par, ss_sub, ss_for, sat_comp, setTg, setTgs, wipeP, sizeLine_eq, List.map_cons, List.map_nil, List.length_cons, List.length_nil, List.cons_append, List.nil_append, List.set_cons_zero, List.set_cons_succ, List.getElem?_cons_zero, List.getElem?_cons_succ, Nat.reduceAdd, Nat.reduceSub, Nat.reduceLeDiff, List.reduceReplicate, Option.some.injEq, exists_eq_left', true_and, and_true, Nat.zero_add]
              refine draw' a1 (by decide) (by decide) fun q3 t3 e0 e1 ht3 f3 => ?_
              simp only [o_addI, o_addS, o_addT, o_addL, o_subI, o_mulI, o_fdivI, o_modI, o_powI, o_negI, o_eqI, o_neI, o_eqS, o_neS, o_ltI, o_gtI, o_leI, o_geI, o_ltS, o_geS, o_inS, o_notInS, o_isN, o_isNotN, o_isT, o_isNotT, o_isS, o_isNotS, o_int, o_intB, o_abs, o_str, o_lenT, o_lenL, o_lenF, o_lenS, o_ixT, o_ixL, o_ixF, ixW_0, ixW_1, ixW_2, o_isStr, o_tupL, o_tupT, o_listT, o_listL, o_listLocT, o_gcd, o_bits, o_finF, o_finT, sat_iVal, sat_iEnum, sat_iRange1, sat_iRange2, o_itT, o_itL, o_itF, o_itS, o_enT, o_rng]
              exact ⟨⟨1 + q3, rfl, mod1_small (by omega) (by omega)⟩, ht3, a2.trans f3⟩
            · rintro ys t' hl' hE ⟨a1, a2⟩
              obtain ⟨ws, rfl, hw⟩ := ints_of hE
              try simp only [o_addI, o_addS, o_addT, o_addL, o_subI, o_mulI, o_fdivI, o_modI, o_powI, o_negI, o_eqI, o_neI, o_eqS, o_neS, o_ltI, o_gtI, o_leI, o_geI, o_ltS, o_geS, o_inS, o_notInS, o_isN, o_isNotN, o_isT, o_isNotT, o_isS, o_isNotS, o_int, o_intB, o_abs, o_str, o_lenT, o_lenL, o_lenF, o_lenS, o_ixT, o_ixL, o_ixF, ixW_0, ixW_1, ixW_2, o_isStr, o_tupL, o_tupT, o_listT, o_listL, o_listLocT, o_gcd, o_bits, o_finF, o_finT, sat_iVal, sat_iEnum, sat_iRange1, sat_iRange2, o_itT, o_itL, o_itF, o_itS, o_enT, o_rng]
              have := a2.len
              exact ⟨_, ws, rfl, by simp, by omega, by rw [List.length_map] at hl'; omega, hw, a1.gr (L := []) .app (by simp), a2.trans .app⟩
          clear hwp hwn hwl hwm ht f
          rintro e t ⟨wp, ws, rfl, hwp, hwn, hwl, hwm, ht, f⟩
          have hsl := hss.lt
          have nwl : wp ∉ [l] := by simp; omega
          refine seq_mid (fun e t' => ∃ gs : List Int, e = ([some (scr ns), some (PV.loc l), some (PV.str sg), some (PV.str stem), some (PV.loc rp), some (PV.loc (rp + 1)), some (PV.int (0 + (i : Int))), none, some (PV.int cnt), some (PV.int ow), some (PV.loc wp), k11, k12, k13, some (PV.lst (ints' gs)), k15, none] : PEnv) ∧ gs.length = 4 ∧ (∀ w ∈ gs, Mod1 w) ∧ t'[wp]? = some (.lst (ints' ws)) ∧ SrcAt t' l ∧ Gr [l] s t') ?_ ?_
          · simp only [sat_ok, sat_bind, sat_v, sat_c, sat_bin, sat_un, sat_test, sat_truth, sat_and, sat_or, sat_not, sat_yes, sat_andv, sat_notv, sat_chain, sat_nil, sat_cons, sat_args, sat_call, sat_callX, sat_meth, sat_one, sat_oNone, sat_oSome, sat_sl, sat_tup, sat_lst, sat_loc, ss_nil, ss_seq, ss_set, ss_expr, ss_ret, ss_retN, ss_if, ss_tg, ss_par, ss_sub, ss_for, sat_comp, setTg, setTgs, wipeP, sizeLine_eq, List.map_cons, List.map_nil, List.length_cons, List.length_nil, List.cons_append, List.nil_append, List.set_cons_zero, List.set_cons_succ, List.getElem?_cons_zero, List.getElem?_cons_succ, Nat.reduceAdd, Nat.reduceSub, Nat.reduceLeDiff, List.reduceReplicate, Option.some.injEq, exists_eq_left', true_and, and_true, Nat.zero_add, o_addI, o_addS, o_addT, o_addL, o_subI, o_mulI, o_fdivI, o_modI, o_powI, o_negI, o_eqI, o_neI, o_eqS, o_neS, o_ltI, o_gtI, o_leI, o_geI, o_ltS, o_geS, o_inS, o_notInS, o_isN, o_isNotN, o_isT, o_isNotT, o_isS, o_isNotS, o_int, o_intB, o_abs, o_str, o_lenT, o_lenL, o_lenF, o_lenS, o_ixT, o_ixL, o_ixF, ixW_0, ixW_1, ixW_2, o_isStr, o_tupL, o_tupT, o_listT, o_listL, o_listLocT, o_gcd, o_bits, o_finF, o_finT, sat_iVal, sat_iEnum, sat_iRange1, sat_iRange2, o_itT, o_itL, o_itF, o_itS, o_enT, o_rng, Int.reduceLE, Int.reduceLT, nabs, Nat.reducePow, Nat.reduceLT, Int.reduceToNat, Int.reducePow, true_and, and_true, or_true, true_or, and_self, if_true, if_false, Bool.false_eq_true, decide_true, decide_false, not_false_eq_true, List.length_map]
            refine draw' ht (by decide) (by decide) fun q3 t3 e0 e1 ht3 f3 => ?_
            simp only [o_addI, o_addS, o_addT, o_addL, o_subI, o_mulI, o_fdivI, o_modI, o_powI, o_negI, o_eqI, o_neI, o_eqS, o_neS, o_ltI, o_gtI, o_leI, o_geI, o_ltS, o_geS, o_inS, o_notInS, o_isN, o_isNotN, o_isT, o_isNotT, o_isS, o_isNotS, o_int, o_intB, o_abs, o_str, o_lenT, o_lenL, o_lenF, o_lenS, o_ixT, o_ixL, o_ixF, ixW_0, ixW_1, ixW_2, o_isStr, o_tupL, o_tupT, o_listT, o_listL, o_listLocT, o_gcd, o_bits, o_finF, o_finT, sat_iVal, sat_iEnum, sat_iRange1, sat_iRange2, o_itT, o_itL, o_itF, o_itS, o_enT, o_rng]
            refine draw' ht3 (by decide) (by decide) fun q4 t4 e2 e3 ht4 f4 => ?_
            simp only [sat_ok, sat_bind, sat_v, sat_c, sat_bin, sat_un, sat_test, sat_truth, sat_and, sat_or, sat_not, sat_yes, sat_andv, sat_notv, sat_chain, sat_nil, sat_cons, sat_args, sat_call, sat_callX, sat_meth, sat_one, sat_oNone, sat_oSome, sat_sl, sat_tup, sat_lst, sat_loc, ss_nil, ss_seq, ss_set, ss_expr, ss_ret, ss_retN, ss_if, ss_tg, ss_par, ss_sub, ss_for, sat_comp, setTg, setTgs, wipeP, sizeLine_eq, List.map_cons, List.map_nil, List.length_cons, List.length_nil, List.cons_append, List.nil_append, List.set_cons_zero, List.set_cons_succ, List.getElem?_cons_zero, List.getElem?_cons_succ, Nat.reduceAdd, Nat.reduceSub, Nat.reduceLeDiff, List.reduceReplicate, Option.some.injEq, exists_eq_left', true_and, and_true, Nat.zero_add, o_addI, o_addS, o_addT, o_addL, o_subI, o_mulI, o_fdivI, o_modI, o_powI, o_negI, o_eqI, o_neI, o_eqS, o_neS, o_ltI, o_gtI, o_leI, o_geI, o_ltS, o_geS, o_inS, o_notInS, o_isN, o_isNotN, o_isT, o_isNotT, o_isS, o_isNotS, o_int, o_intB, o_abs, o_str, o_lenT, o_lenL, o_lenF, o_lenS, o_ixT, o_ixL, o_ixF, ixW_0, ixW_1, ixW_2, o_isStr, o_tupL, o_tupT, o_listT, o_listL, o_listLocT, o_gcd, o_bits, o_finF, o_finT, sat_iVal, sat_iEnum, sat_iRange1, sat_iRange2, o_itT, o_itL, o_itF, o_itS, o_enT, o_rng]
            refine ⟨[1, 10000000000000000000000000000000000000000 - 1 - q3, 1 + q4, 6], rfl, rfl, fun w m => ?_, f4.at' (f3.at' hwp nwl) nwl, ht4, (f.trans f3).trans f4⟩
            simp only [List.mem_cons, List.not_mem_nil, or_false] at m
            rcases m with rfl | rfl | rfl | rfl
            · exact mod1_small (by decide) (by decide)
            · exact ⟨by omega, Nat.lt_of_lt_of_le (show _ < 2 ^ 134 by omega) (Nat.pow_le_pow_right (by decide) (by decide))⟩
            · exact ⟨by omega, Nat.lt_of_lt_of_le (show _ < 2 ^ 134 by omega) (Nat.pow_le_pow_right (by decide) (by decide))⟩
            · exact mod1_small (by decide) (by decide)
          rintro e t5 ⟨gs, rfl, hgl, hgm, hw5, ht5, f5⟩
          refine seq_mid (fun e t' => ∃ at' : Int, 0 ≤ at' ∧ at' < cnt ∧ e = ([some (scr ns), some (PV.loc l), some (PV.str sg), some (PV.str stem), some (PV.loc rp), some (PV.loc (rp + 1)), some (PV.int (0 + (i : Int))), none, some (PV.int cnt), some (PV.int ow), some (PV.loc wp), k11, k12, k13, some (PV.lst (ints' gs)), some (PV.int at'), none] : PEnv) ∧ t'[wp]? = some (.lst (ints' ws)) ∧ SrcAt t' l ∧ Gr [l] s t') ?_ ?_
          · simp only [sat_ok, sat_bind, sat_v, sat_c, sat_bin, sat_un, sat_test, sat_truth, sat_and, sat_or, sat_not, sat_yes, sat_andv, sat_notv, sat_chain, sat_nil, sat_cons, sat_args, sat_call, sat_callX, sat_meth, sat_one, sat_oNone, sat_oSome, sat_sl, sat_tup, sat_lst, sat_loc, ss_nil, ss_seq, ss_set, ss_expr, ss_ret, ss_retN, ss_if, ss_tg, ss_par, ss_sub, ss_for, sat_comp, setTg, setTgs, wipeP, sizeLine_eq, List.map_cons, List.map_nil, List.length_cons, List.length_nil, List.cons_append, List.nil_append, List.set_cons_zero, List.set_cons_succ, List.getElem?_cons_zero, List.getElem?_cons_succ, Nat.reduceAdd, Nat.reduceSub, Nat.reduceLeDiff, List.reduceReplicate, Option.some.injEq, exists_eq_left', true_and, and_true, Nat.zero_add]
            exact draw' ht5 (by omega) (log2_k (n := 100) (by omega) (by omega)) fun r t6 c0 c1 ht6 f6 => ⟨r, c0, c1, rfl, f6.at' hw5 nwl, ht6, f5.trans f6⟩
          rintro e t6 ⟨at', a0, a1, rfl, hw6, ht6, f6⟩
          simp only [sat_ok, sat_bind, sat_v, sat_c, sat_bin, sat_un, sat_test, sat_truth, sat_and, sat_or, sat_not, sat_yes, sat_andv, sat_notv, sat_chain, sat_nil, sat_cons, sat_args, sat_call, sat_callX, sat_meth, sat_one, sat_oNone, sat_oSome, sat_sl, sat_tup, sat_lst, sat_loc, ss_nil, ss_seq, ss_set, ss_expr, ss_ret, ss_retN, ss_if, ss_tg, ss_par, ss_sub, ss_for, sat_comp, setTg, setTgs, wipeP, sizeLine_eq, List.map_cons, List.map_nil, List.length_cons, List.length_nil, List.cons_append, List.nil_append, List.set_cons_zero, List.set_cons_succ, List.getElem?_cons_zero, List.getElem?_cons_succ, Nat.reduceAdd, Nat.reduceSub, Nat.reduceLeDiff, List.reduceReplicate, Option.some.injEq, exists_eq_left', true_and, and_true, Nat.zero_add]
          refine draw' ht6 (by decide) (by decide) fun r t7 c0 c1 ht7 f7 => ?_
          have hw7 := f7.at' hw6 nwl
          simp only [o_addI, o_addS, o_addT, o_addL, o_subI, o_mulI, o_fdivI, o_modI, o_powI, o_negI, o_eqI, o_neI, o_eqS, o_neS, o_ltI, o_gtI, o_leI, o_geI, o_ltS, o_geS, o_inS, o_notInS, o_isN, o_isNotN, o_isT, o_isNotT, o_isS, o_isNotS, o_int, o_intB, o_abs, o_str, o_lenT, o_lenL, o_lenF, o_lenS, o_ixT, o_ixL, o_ixF, ixW_0, ixW_1, ixW_2, o_isStr, o_tupL, o_tupT, o_listT, o_listL, o_listLocT, o_gcd, o_bits, o_finF, o_finT, sat_iVal, sat_iEnum, sat_iRange1, sat_iRange2, o_itT, o_itL, o_itF, o_itS, o_enT, o_rng]
          refine draw_len c0 (by rw [List.length_map, hgl]; exact c1) fun y hy => ?_
          obtain ⟨w, mw, rfl⟩ := List.mem_map.mp hy
          rw [o_set hw7, ixN_in a0 (by rw [List.length_map]; omega)]
          have g8 : Gr [wp] t7 (t7.set wp (.lst ((ints' ws).set at'.toNat (.int w)))) := .set (by simp)
          refine ⟨wp, ws.set at'.toNat w, _, _, rfl, by rw [List.getElem?_set_self (lt_of_some hw7)]; simp [List.map_set], hwn, by simp; omega, fun x hx => ?_, ht7.gr g8 (by simp; omega), ?_⟩
          · rcases List.mem_or_eq_of_mem_set hx with q | q
            · exact hwm x q
            · rw [q]; exact hgm w mw
          · refine Gr.cut (L := [l, wp]) (L' := [l]) (((f6.trans f7).mono (by simp)).trans (g8.mono (by simp))) ?_
            intro j hj hlt
            simp only [List.mem_cons, List.not_mem_nil, or_false] at hj ⊢
            omega
        · rw [ss_nil]
          exact ⟨wp, ws, k14, k15, rfl, hwp, hwn, hwl, hwm, ht, f⟩
      clear hwp hwn hwl hwm ht f
      rintro e t ⟨wp, ws, k14, k15, rfl, hwp, hwn, hwl, hwm, ht, f⟩
      have hsl := hss.lt
      have nwl : wp ∉ [l] := by simp; omega
      refine seq_mid (fun e t => ∃ base : Str, base.length ≤ 29 ∧ e = ([some (scr ns), some (PV.loc l), some (PV.str sg), some (PV.str stem), some (PV.loc rp), some (PV.loc (rp + 1)), some (PV.int (0 + (i : Int))), none, some (PV.int cnt), some (PV.int ow), some (PV.loc wp), some (PV.str base), k12, k13, k14, k15, none] : PEnv) ∧ t[wp]? = some (.lst (ints' ws)) ∧ SrcAt t l ∧ Gr [l] s t) ?_ ?_
      · simp only [sat_ok, sat_bind, sat_v, sat_c, sat_bin, sat_un, sat_test, sat_truth, sat_and, sat_or, sat_not, sat_yes, sat_andv, sat_notv, sat_chain, sat_nil, sat_cons, sat_args, sat_call, sat_callX, sat_meth, sat_one, sat_oNone, sat_oSome, sat_sl, sat_tup, sat_lst, sat_loc, ss_nil, ss_seq, ss_set, ss_expr, ss_ret, ss_retN, ss_if, ss_tg, ss_par, ss_sub, ss_for, sat_comp, setTg, setTgs, wipeP, sizeLine_eq, List.map_cons, List.map_nil, List.length_cons, List.length_nil, List.cons_append, List.nil_append, List.set_cons_zero, List.set_cons_succ, List.getElem?_cons_zero, List.getElem?_cons_succ, Nat.reduceAdd, Nat.reduceSub, Nat.reduceLeDiff, List.reduceReplicate, Option.some.injEq, exists_eq_left', true_and, and_true, Nat.zero_add]
        refine name' ht (Use.nil (n := 900)) (by decide) fun z t2 hz ht2 f2 => ?_
        try simp only [sat_ok, sat_bind, sat_v, sat_c, sat_bin, sat_un, sat_test, sat_truth, sat_and, sat_or, sat_not, sat_yes, sat_andv, sat_notv, sat_chain, sat_nil, sat_cons, sat_args, sat_call, sat_callX, sat_meth, sat_one, sat_oNone, sat_oSome, sat_sl, sat_tup, sat_lst, sat_loc, ss_nil, ss_seq, ss_set, ss_expr, ss_ret, ss_retN, ss_if, ss_tg, ss_par, ss_sub, ss_for, sat_comp, setTg, setTgs, wipeP, sizeLine_eq, List.map_cons, List.map_nil, List.length_cons, List.length_nil, List.cons_append, List.nil_append, List.set_cons_zero, List.set_cons_succ, List.getElem?_cons_zero, List.getElem?_cons_succ, Nat.reduceAdd, Nat.reduceSub, Nat.reduceLeDiff, List.reduceReplicate, Option.some.injEq, exists_eq_left', true_and, and_true, Nat.zero_add]
        refine draw' ht2 (by decide) (by decide) fun r t3 c0 c1 ht3 f3 => ?_
        have hc := cutS_len (z := stem) (lo := none) (hi := some r)
        simp only [o_slS, o_addS]
        refine ⟨by rw [sizeLine_eq]; omega, by rw [sizeLine_eq]; omega, z ++ cutS stem none (some r), by rw [len_app]; omega, rfl, f3.at' (f2.at' hwp nwl) nwl, ht3, (f.trans f2).trans f3⟩
      clear hwp ht f
      rintro e t ⟨base, hbase, rfl, hwp, ht, f⟩
      refine seq_mid (fun e t' => e = ([some (scr ns), some (PV.loc l), some (PV.str sg), some (PV.str stem), some (PV.loc rp), some (PV.loc (rp + 1)), some (PV.int (0 + (i : Int))), none, some (PV.int cnt), some (PV.int ow), some (PV.loc wp), some (PV.str base), some (PV.str base), k13, k14, k15, none] : PEnv) ∧ t' = t) ?_ ?_
      · simp only [sat_ok, sat_bind, sat_v, sat_c, sat_bin, sat_un, sat_test, sat_truth, sat_and, sat_or, sat_not, sat_yes, sat_andv, sat_notv, sat_chain, sat_nil, sat_cons, sat_args, sat_call, sat_callX, sat_meth, sat_one, sat_oNone, sat_oSome, sat_sl, sat_tup, sat_lst, sat_loc, ss_nil, ss_seq, ss_set, ss_expr, ss_ret, ss_retN, ss_if, ss_tg, ss_par, ss_sub, ss_for, sat_comp, setTg, setTgs, wipeP, sizeLine_eq, List.map_cons, List.map_nil, List.length_cons, List.length_nil, List.cons_append, List.nil_append, List.set_cons_zero, List.set_cons_succ, List.getElem?_cons_zero, List.getElem?_cons_succ, Nat.reduceAdd, Nat.reduceSub, Nat.reduceLeDiff, List.reduceReplicate, Option.some.injEq, exists_eq_left', true_and, and_true, Nat.zero_add]
      rintro e t ⟨rfl, rfl⟩
      have hrt := f.at' hr nrl
      have hut := f.at' hu nul
      have hsq : seqOf t (.loc (rp + 1)) = some (false, us.map .str) := by unfold seqOf; simp only [hut]
      refine seq_mid (fun e t' => ∃ (name : Str) (w : Option PV), name.length ≤ 40 ∧ e = ([some (scr ns), some (PV.loc l), some (PV.str sg), some (PV.str stem), some (PV.loc rp), some (PV.loc (rp + 1)), some (PV.int (0 + (i : Int))), none, some (PV.int cnt), some (PV.int ow), some (PV.loc wp), some (PV.str base), some (PV.str name), w, k14, k15, none] : PEnv) ∧ t' = t) ?_ ?_
      · simp only [sat_ok, sat_bind, sat_v, sat_c, sat_bin, sat_un, sat_test, sat_truth, sat_and, sat_or, sat_not, sat_yes, sat_andv, sat_notv, sat_chain, sat_nil, sat_cons, sat_args, sat_call, sat_callX, sat_meth, sat_one, sat_oNone, sat_oSome, sat_sl, sat_tup, sat_lst, sat_loc, ss_nil, ss_seq, ss_set, ss_expr, ss_ret, ss_retN, ss_if, ss_tg, ss_par, ss_sub, ss_for, sat_comp, setTg, setTgs, wipeP, sizeLine_eq, List.map_cons, List.map_nil, List.length_cons, List.length_nil, List.cons_append, List.nil_append, List.set_cons_zero, List.set_cons_succ, List.getElem?_cons_zero, List.getElem?_cons_succ, Nat.reduceAdd, Nat.reduceSub, Nat.reduceLeDiff, List.reduceReplicate, Option.some.injEq, exists_eq_left', true_and, and_true, Nat.zero_add, o_addI, o_addS, o_addT, o_addL, o_subI, o_mulI, o_fdivI, o_modI, o_powI, o_negI, o_eqI, o_neI, o_eqS, o_neS, o_ltI, o_gtI, o_leI, o_geI, o_ltS, o_geS, o_inS, o_notInS, o_isN, o_isNotN, o_isT, o_isNotT, o_isS, o_isNotS, o_int, o_intB, o_abs, o_str, o_lenT, o_lenL, o_lenF, o_lenS, o_ixT, o_ixL, o_ixF, ixW_0, ixW_1, ixW_2, o_isStr, o_tupL, o_tupT, o_listT, o_listL, o_listLocT, o_gcd, o_bits, o_finF, o_finT, sat_iVal, sat_iEnum, sat_iRange1, sat_iRange2, o_itT, o_itL, o_itF, o_itS, o_enT, o_rng, o_lenP hut]
        refine ⟨⟨by omega, by rw [List.length_map]; omega⟩, ?_⟩
        refine for_inv0 (fun e t' => ∃ (name : Str) (w : Option PV), name.length ≤ 40 ∧ e = ([some (scr ns), some (PV.loc l), some (PV.str sg), some (PV.str stem), some (PV.loc rp), some (PV.loc (rp + 1)), some (PV.int (0 + (i : Int))), none, some (PV.int cnt), some (PV.int ow), some (PV.loc wp), some (PV.str base), some (PV.str name), w, k14, k15, none] : PEnv) ∧ t' = t) ⟨base, _, by omega, rfl, rfl⟩ ?_ (fun e s h => h)
        rintro v e t' hv ⟨name, w, hn, rfl, rfl⟩
        obtain ⟨j, hj⟩ := List.getElem?_of_mem hv
        obtain ⟨hj1, rfl⟩ := rngs_get hj
        rw [List.length_map] at hj1
        refine ⟨_, rfl, ?_⟩
        rw [ss_if, sat_test, sat_bin, sat_var rfl, sat_var rfl, o_inUsed hsq, sat_truth]
        split
        · have q := str_len (0 + (j : Int)) (by omega) (by omega)
          rw [ss_set, sat_bin, sat_sl, sat_var rfl, sat_oNone, sat_oSome, sat_c]
          simp only [o_slS]
          rw [sat_args, sat_cons, sat_var rfl, sat_nil, sat_one, o_str, o_addS]
          have hc := cutS_len (z := base) (lo := none) (hi := some 10)
          generalize strInt (0 + (j : Int)) = y at q ⊢
          exact ⟨by rw [sizeLine_eq]; omega, log2_small (by omega), by rw [sizeLine_eq]; omega, cutS base none (some 10) ++ y, _, by rw [len_app]; omega, rfl, rfl⟩
        · rw [ss_nil]
          exact ⟨name, _, hn, rfl, rfl⟩
      rintro e t ⟨name, w, hn, rfl, rfl⟩
      simp only [sat_ok, sat_bind, sat_v, sat_c, sat_bin, sat_un, sat_test, sat_truth, sat_and, sat_or, sat_not, sat_yes, sat_andv, sat_notv, sat_chain, sat_nil, sat_cons, sat_args, sat_call, sat_callX, sat_meth, sat_one, sat_oNone, sat_oSome, sat_sl, sat_tup, sat_lst, sat_loc, ss_nil, ss_seq, ss_set, ss_expr, ss_ret, ss_retN, ss_if, ss_tg, ss_par, ss_sub, ss_for, sat_comp, setTg, setTgs, wipeP, sizeLine_eq, List.map_cons, List.map_nil, List.length_cons, List.length_nil, List.cons_append, List.nil_append, List.set_cons_zero, List.set_cons_succ, List.getElem?_cons_zero, List.getElem?_cons_succ, Nat.reduceAdd, Nat.reduceSub, Nat.reduceLeDiff, List.reduceReplicate, Option.some.injEq, exists_eq_left', true_and, and_true, Nat.zero_add]
      refine ⟨o_isL hut, ?_⟩
      rw [o_app hut]
      refine ⟨by rw [sizeLine_eq, List.length_map]; omega, ?_⟩
      have g5 : Gr [rp + 1] t (t.set (rp + 1) (.lst (us.map .str ++ [.str name]))) := .set (by simp)
      have hr5 := g5.at' hrt (by simp)
      have hlw : rp + 1 < s.length := lt_of_some hu
      have hw5 := g5.at' hwp (by simp; omega)
      have hs5 := ht.gr g5 (by simp; omega)
      have hu5 : (t.set (rp + 1) (.lst (us.map .str ++ [.str name])))[rp + 1]? = some (.lst (us.map .str ++ [.str name])) := List.getElem?_set_self (lt_of_some hut)
      refine ⟨o_isL hr5, ?_⟩
      refine reduced_ok (.inr ⟨wp, rfl, hw5⟩) hwm (by omega) fun _ => ?_
      rw [o_app hr5]
      refine ⟨by rw [sizeLine_eq]; omega, ?_⟩
      have g6 : Gr [rp] (t.set (rp + 1) (.lst (us.map .str ++ [.str name]))) _ := .set (l := rp) (o := .lst (rows ++ [.tup [.str name, .int ow, .tup (ints' (if gcds ws = 0 then ws else ws.map fun w => w / (gcds ws : Int)))]])) (by simp)
      refine ⟨rows ++ [.tup [.str name, .int ow, .tup (ints' (if gcds ws = 0 then ws else ws.map fun w => w / (gcds ws : Int)))]], us ++ [name], _, _, _, _, _, _, _, _, _, rfl, by simp; omega, by simp; omega, fun u m => ?_, List.getElem?_set_self (lt_of_some hr5), ?_, ?_, hs5.gr g6 (by simp; omega), ?_⟩
      · rcases List.mem_append.mp m with q | q
        · exact hul u q
        · rw [List.mem_singleton.mp q]; exact hn
      · rw [List.map_append]
        exact g6.at' hu5 (by simp)
      · intro r m
        rcases List.mem_append.mp m with q | q
        · exact hg r q
        · rw [List.mem_singleton.mp q]
          exact ⟨name, ow, _, rfl, hn, by rw [red_len]; omega, by rw [red_len]; omega, red_mod hwm⟩
      · exact g2.trans ((f.mono (by simp)).trans ((g5.mono (by simp)).trans (g6.mono (by simp))))
    · rintro e s ⟨rows, us, kk, k8, k9, k10, k11, k12, k13, k14, k15, rfl, hr1, hu1, hul, hr, hu, hg, hss, g2⟩
      rw [rngs_len] at hr1 hu1
      exact ⟨rows, us, kk, none, k8, k9, k10, k11, k12, k13, k14, k15, rfl, by omega, by omega, by omega, hul, hr, hu, hg, hss, g2⟩
  rintro e s3 ⟨rows, us, kk, k7, k8, k9, k10, k11, k12, k13, k14, k15, rfl, h1, h2, h3, h4, h5, h6, h7, h8, h9⟩
  -- rows, sorted
  refine seq_mid (fun e s => ∃ ys : List PV, e = ([some (scr ns), some (PV.loc l), some (PV.str sg), some (PV.str stem), some (PV.lst ys), some (PV.loc (rp + 1)), kk, none, k8, k9, k10, k11, k12, k13, k14, k15, none] : PEnv) ∧ ys.length = rows.length ∧ (∀ r ∈ ys, GRow r) ∧ s = s3) ?_ ?_
  · simp only [sat_ok, sat_bind, sat_v, sat_c, sat_bin, sat_un, sat_test, sat_truth, sat_and, sat_or, sat_not, sat_yes, sat_andv, sat_notv, sat_chain, sat_nil, sat_cons, sat_args, sat_call, sat_callX, sat_meth, sat_one, sat_oNone, sat_oSome, sat_sl, sat_tup, sat_lst, sat_loc, ss_nil, ss_seq, ss_set, ss_expr, ss_ret, ss_retN, ss_if, ss_tg, ss_par, ss_sub, ss_for, sat_comp, setTg, setTgs, wipeP, sizeLine_eq, List.map_cons, List.map_nil, List.length_cons, List.length_nil, List.cons_append, List.nil_append, List.set_cons_zero, List.set_cons_succ, List.getElem?_cons_zero, List.getElem?_cons_succ, Nat.reduceAdd, Nat.reduceSub, Nat.reduceLeDiff, List.reduceReplicate, Option.some.injEq, exists_eq_left', true_and, and_true, Nat.zero_add, o_addI, o_addS, o_addT, o_addL, o_subI, o_mulI, o_fdivI, o_modI, o_powI, o_negI, o_eqI, o_neI, o_eqS, o_neS, o_ltI, o_gtI, o_leI, o_geI, o_ltS, o_geS, o_inS, o_notInS, o_isN, o_isNotN, o_isT, o_isNotT, o_isS, o_isNotS, o_int, o_intB, o_abs, o_str, o_lenT, o_lenL, o_lenF, o_lenS, o_ixT, o_ixL, o_ixF, ixW_0, ixW_1, ixW_2, o_isStr, o_tupL, o_tupT, o_listT, o_listL, o_listLocT, o_gcd, o_bits, o_finF, o_finT, sat_iVal, sat_iEnum, sat_iRange1, sat_iRange2, o_itT, o_itL, o_itF, o_itS, o_enT, o_rng]
    exact sorted_ok (xs := rows) (by unfold seqOf; simp only [h5]) h7 fun ys q1 q2 => ⟨ys, rfl, q1, q2, by first | rfl | trivial⟩
  rintro e s3 ⟨ys, rfl, hyl, hyg, rfl⟩
  refine seq_mid (fun e s => ∃ os : List Str, e = ([some (scr ns), some (PV.loc l), some (PV.str sg), some (PV.str stem), some (PV.lst ys), some (PV.loc (rp + 1)), kk, some (PV.lst (List.map PV.str os)), k8, k9, k10, k11, k12, k13, k14, k15, none] : PEnv) ∧ os ≠ [] ∧ os.length ≤ 1000 ∧ (∀ u ∈ os, u.length ≤ 60) ∧ SrcAt s l ∧ Gr [l] s3 s) ?_ ?_
  · simp only [sat_ok, sat_bind, sat_v, sat_c, sat_bin, sat_un, sat_test, sat_truth, sat_and, sat_or, sat_not, sat_yes, sat_andv, sat_notv, sat_chain, sat_nil, sat_cons, sat_args, sat_call, sat_callX, sat_meth, sat_one, sat_oNone, sat_oSome, sat_sl, sat_tup, sat_lst, sat_loc, ss_nil, ss_seq, ss_set, ss_expr, ss_ret, ss_retN, ss_if, ss_tg, ss_par, ss_sub, ss_for, sat_comp, setTg, setTgs, wipeP, sizeLine_eq, List.map_cons, List.map_nil, List.length_cons, List.length_nil, List.cons_append, List.nil_append, List.set_cons_zero, List.set_cons_succ, List.getElem?_cons_zero, List.getElem?_cons_succ, Nat.reduceAdd, Nat.reduceSub, Nat.reduceLeDiff, List.reduceReplicate, Option.some.injEq, exists_eq_left', true_and, and_true, Nat.zero_add, o_addI, o_addS, o_addT, o_addL, o_subI, o_mulI, o_fdivI, o_modI, o_powI, o_negI, o_eqI, o_neI, o_eqS, o_neS, o_ltI, o_gtI, o_leI, o_geI, o_ltS, o_geS, o_inS, o_notInS, o_isN, o_isNotN, o_isT, o_isNotT, o_isS, o_isNotS, o_int, o_intB, o_abs, o_str, o_lenT, o_lenL, o_lenF, o_lenS, o_ixT, o_ixL, o_ixF, ixW_0, ixW_1, ixW_2, o_isStr, o_tupL, o_tupT, o_listT, o_listL, o_listLocT, o_gcd, o_bits, o_finF, o_finT, sat_iVal, sat_iEnum, sat_iRange1, sat_iRange2, o_itT, o_itL, o_itF, o_itS, o_enT, o_rng]
    refine name' h8 (Use.nil (n := 900)) (by decide) fun z s4 hz hs4 g4 => ?_
    have hu4 := g4.at' h6 nul
    simp only [sat_ok, sat_bind, sat_v, sat_c, sat_bin, sat_un, sat_test, sat_truth, sat_and, sat_or, sat_not, sat_yes, sat_andv, sat_notv, sat_chain, sat_nil, sat_cons, sat_args, sat_call, sat_callX, sat_meth, sat_one, sat_oNone, sat_oSome, sat_sl, sat_tup, sat_lst, sat_loc, ss_nil, ss_seq, ss_set, ss_expr, ss_ret, ss_retN, ss_if, ss_tg, ss_par, ss_sub, ss_for, sat_comp, setTg, setTgs, wipeP, sizeLine_eq, List.map_cons, List.map_nil, List.length_cons, List.length_nil, List.cons_append, List.nil_append, List.set_cons_zero, List.set_cons_succ, List.getElem?_cons_zero, List.getElem?_cons_succ, Nat.reduceAdd, Nat.reduceSub, Nat.reduceLeDiff, List.reduceReplicate, Option.some.injEq, exists_eq_left', true_and, and_true, Nat.zero_add, o_addI, o_addS, o_addT, o_addL, o_subI, o_mulI, o_fdivI, o_modI, o_powI, o_negI, o_eqI, o_neI, o_eqS, o_neS, o_ltI, o_gtI, o_leI, o_geI, o_ltS, o_geS, o_inS, o_notInS, o_isN, o_isNotN, o_isT, o_isNotT, o_isS, o_isNotS, o_int, o_intB, o_abs, o_str, o_lenT, o_lenL, o_lenF, o_lenS, o_ixT, o_ixL, o_ixF, ixW_0, ixW_1, ixW_2, o_isStr, o_tupL, o_tupT, o_listT, o_listL, o_listLocT, o_gcd, o_bits, o_finF, o_finT, sat_iVal, sat_iEnum, sat_iRange1, sat_iRange2, o_itT, o_itL, o_itF, o_itS, o_enT, o_rng, lenx, o_lenP hu4]
    refine ⟨by omega, ?_⟩
    refine draw' hs4 (by rw [List.length_map]; omega) (log2_k (n := 1000) (by omega) (by rw [List.length_map]; omega)) fun r s5 c0 c1 hs5 g5 => ?_
    rw [o_ixP (g5.at' hu4 nul)]
    refine draw_len c0 c1 fun y hy => ?_
    obtain ⟨u, mu, rfl⟩ := List.mem_map.mp hy
    refine ⟨[z, "x" ++ stem, u], rfl, by simp, by simp, fun w m => ?_, hs5, g4.trans g5⟩
    simp only [List.mem_cons, List.not_mem_nil, or_false] at m
    rcases m with rfl | rfl | rfl
    · omega
    · rw [len_app, lenx, hstem]; decide
    · have := h4 _ mu; omega
  rintro e s6 ⟨os, rfl, ho0, ho1, ho2, hs6, g6⟩
  have hl6 := hs6.lt
  have hlen6 := g6.len
  have hlen9 := h9.len
  have hlen0 := g0.len
  simp only [sat_ok, sat_bind, sat_v, sat_c, sat_bin, sat_un, sat_test, sat_truth, sat_and, sat_or, sat_not, sat_yes, sat_andv, sat_notv, sat_chain, sat_nil, sat_cons, sat_args, sat_call, sat_callX, sat_meth, sat_one, sat_oNone, sat_oSome, sat_sl, sat_tup, sat_lst, sat_loc, ss_nil, ss_seq, ss_set, ss_expr, ss_ret, ss_retN, ss_if, ss_tg, ss_par, ss_sub, ss_for, sat_comp, setTg, setTgs, wipeP, sizeLine_eq, List.map_cons, List.map_nil, List.length_cons, List.length_nil, List.cons_append, List.nil_append, List.set_cons_zero, List.set_cons_succ, List.getElem?_cons_zero, List.getElem?_cons_succ, Nat.reduceAdd, Nat.reduceSub, Nat.reduceLeDiff, List.reduceReplicate, Option.some.injEq, exists_eq_left', true_and, and_true, Nat.zero_add, o_addI, o_addS, o_addT, o_addL, o_subI, o_mulI, o_fdivI, o_modI, o_powI, o_negI, o_eqI, o_neI, o_eqS, o_neS, o_ltI, o_gtI, o_leI, o_geI, o_ltS, o_geS, o_inS, o_notInS, o_isN, o_isNotN, o_isT, o_isNotT, o_isS, o_isNotS, o_int, o_intB, o_abs, o_str, o_lenT, o_lenL, o_lenF, o_lenS, o_ixT, o_ixL, o_ixF, ixW_0, ixW_1, ixW_2, o_isStr, o_tupL, o_tupT, o_listT, o_listL, o_listLocT, o_gcd, o_bits, o_finF, o_finT, sat_iVal, sat_iEnum, sat_iRange1, sat_iRange2, o_itT, o_itL, o_itF, o_itS, o_enT, o_rng]
  refine spine_ok ho0 ho1 ho2 (by omega) 60 9 ys (s6 ++ [PO.lst [.int 379]]) _ (by decide) (by decide) (by intro z; subst z; simp at hyl; omega) (by omega) hyg (hs6.gr (L := []) .app (by simp)) ⟨379, by simp⟩ fun v s a1 a2 a3 a4 => ?_
  try simp only [sat_ok, sat_bind, sat_v, sat_c, sat_bin, sat_un, sat_test, sat_truth, sat_and, sat_or, sat_not, sat_yes, sat_andv, sat_notv, sat_chain, sat_nil, sat_cons, sat_args, sat_call, sat_callX, sat_meth, sat_one, sat_oNone, sat_oSome, sat_sl, sat_tup, sat_lst, sat_loc, ss_nil, ss_seq, ss_set, ss_expr, ss_ret, ss_retN, ss_if, ss_tg, ss_par, ss_sub, ss_for, sat_comp, setTg, setTgs, wipeP, sizeLine_eq, List.map_cons, List.map_nil, List.length_cons, List.length_nil, List.cons_append, List.nil_append, List.set_cons_zero, List.set_cons_succ, List.getElem?_cons_zero, List.getElem?_cons_succ, Nat.reduceAdd, Nat.reduceSub, Nat.reduceLeDiff, List.reduceReplicate, Option.some.injEq, exists_eq_left', true_and, and_true, Nat.zero_add, o_addI, o_addS, o_addT, o_addL, o_subI, o_mulI, o_fdivI, o_modI, o_powI, o_negI, o_eqI, o_neI, o_eqS, o_neS, o_ltI, o_gtI, o_leI, o_geI, o_ltS, o_geS, o_inS, o_notInS, o_isN, o_isNotN, o_isT, o_isNotT, o_isS, o_isNotS, o_int, o_intB, o_abs, o_str, o_lenT, o_lenL, o_lenF, o_lenS, o_ixT, o_ixL, o_ixF, ixW_0, ixW_1, ixW_2, o_isStr, o_tupL, o_tupT, o_listT, o_listL, o_listLocT, o_gcd, o_bits, o_finF, o_finT, sat_iVal, sat_iEnum, sat_iRange1, sat_iRange2, o_itT, o_itL, o_itF, o_itS, o_enT, o_rng]
  refine k ys v s (by omega) hyg a1 a2 ?_
  have gg : Gr [l, rp, rp + 1, s6.length] st s := (g0.mono (by simp)).trans ((h9.mono (by simp)).trans ((g6.mono (by simp)).trans ((Gr.app (L := [l, rp, rp + 1, s6.length])).trans (a4.mono (by simp)))))
  refine gg.cut ?_
  intro j hj hlt
  simp only [List.mem_cons, List.not_mem_nil, or_false] at hj ⊢
  omega
end PL
/-! PL, part M3: names, judged by both. -/
namespace PL
open PySem PySem.Spec PyProof.Rows L2
abbrev LET : Str := "abcdefghijklmnopqrstuvwxyz"
abbrev DIG : Str := "0123456789"
def okC (c : Nat) : Bool := inStr ⟨#[c]⟩ LET || inStr ⟨#[c]⟩ DIG
def isNameP (z : Str) : Bool := decide (1 ≤ z.length) && decide (z.length ≤ 12) && (match z.cps.toList with | c :: _ => inStr ⟨#[c]⟩ LET | [] => false) && z.cps.toList.all okC
theorem ix0S {z : Str} {c : Nat} {cs : List Nat} {st : Store} {Q : PV → Store → Prop} (h : z.cps.toList = c :: cs) (hz : z.length ≤ sizeLine) : Sat (pIx (.str z) (.int 0) st) Q = Q (.str ⟨#[c]⟩) st := by
  have : pIx (.str z) (.int 0) st = .ok (.str ⟨#[c]⟩) st := by
    show (match (if z.length ≤ sizeLine then atI z.cps.toList 0 else none) with | some c => Res.ok (PV.str ⟨#[c]⟩) st | none => Res.stuck) = _
    rw [if_pos hz, h]
    have e : atI (c :: cs) (0 : Int) = some c := by
      unfold atI ixN
      rw [if_pos (by omega), if_pos (by simp only [List.length_cons]; omega)]
      rfl
    rw [e]
  rw [this, sat_ok]
theorem is_name_ok {z : Str} {st : Store} {Q : PV → Store → Prop} (hz : z.length ≤ 1000) (k : Q (.bl (isNameP z)) st) : Sat (m_is_name [.str z] st) Q := by
  refine sat_body ?_
  unfold f_is_name
  simp only [List.map_cons, List.map_nil, List.length_cons, List.length_nil, Nat.reduceAdd, Nat.reduceSub, List.reduceReplicate, List.cons_append, List.nil_append]
  have hsl : z.length ≤ sizeLine := by rw [sizeLine_eq]; omega
  have hlen : z.length = z.cps.toList.length := (Array.length_toList ..).symm
  refine seq_mid (fun e s => e = ([some (PV.str z), none] : PEnv) ∧ s = st ∧ 1 ≤ z.length ∧ z.length ≤ 12 ∧ ∃ c cs, z.cps.toList = c :: cs ∧ inStr ⟨#[c]⟩ LET = true) ?_ ?_
  · rw [ss_if]
    simp only [sat_or, sat_not, sat_test, sat_chain, sat_c, sat_args, sat_cons, sat_v, sat_nil, sat_one, List.getElem?_cons_zero, o_lenS, o_leI, hsl, true_and]
    by_cases h1 : 1 ≤ z.length
    · by_cases h2 : z.length ≤ 12
      · have e1 : decide ((z.length : Int) < 1) = false := by simp; omega
        have e2 : decide ((12 : Int) < (z.length : Int)) = false := by simp; omega
        cases hc : z.cps.toList with
        | nil => rw [hc] at hlen; simp at hlen; omega
        | cons c cs =>
          simp only [e1, e2, Bool.not_false, sat_truth, Bool.not_true, Bool.false_eq_true, if_false, sat_bin, sat_v, sat_c, List.getElem?_cons_zero, ix0S hc hsl, o_notInS]
          cases hL : inStr ⟨#[c]⟩ LET with
          | true =>
            simp only [Bool.not_true, Bool.false_eq_true, if_false, ss_nil]
            exact ⟨trivial, trivial, h1, h2, c, cs, rfl, hL⟩
          | false =>
            simp only [Bool.not_false, if_true, ss_ret, sat_c]
            have : isNameP z = false := by unfold isNameP; rw [hc]; simp only [hL, Bool.and_false, Bool.false_and]
            rw [this] at k; exact k
      · have : isNameP z = false := by unfold isNameP; rw [decide_eq_false h2]; simp only [Bool.and_false, Bool.false_and]
        rw [this] at k
        have e1 : decide ((z.length : Int) < 1) = false := by simp; omega
        have e2 : decide ((12 : Int) < (z.length : Int)) = true := by simp; omega
        simp only [e1, e2, Bool.not_false, sat_truth, Bool.not_true, Bool.false_eq_true, if_false, if_true, ss_ret, sat_c]
        exact k
    · have : isNameP z = false := by unfold isNameP; rw [decide_eq_false h1]; simp only [Bool.and_false, Bool.false_and]
      rw [this] at k
      have e1 : decide ((z.length : Int) < 1) = true := by simp; omega
      simp only [e1, Bool.not_true, sat_truth, Bool.not_false, Bool.false_eq_true, if_false, if_true, ss_ret, sat_c]
      exact k
  rintro e s ⟨rfl, rfl, h1, h2, c, cs, hc, hL⟩
  have hP : isNameP z = z.cps.toList.all okC := by
    unfold isNameP
    rw [decide_eq_true h1, decide_eq_true h2, hc]
    simp only [hL, Bool.and_true, Bool.true_and]
  rw [hP] at k
  refine seq_mid (fun e t => t = s ∧ z.cps.toList.all okC = true) ?_ ?_
  · simp only [sat_ok, sat_bind, sat_v, sat_c, sat_bin, sat_un, sat_test, sat_truth, sat_and, sat_or, sat_not, sat_yes, sat_andv, sat_notv, sat_chain, sat_nil, sat_cons, sat_args, sat_call, sat_callX, sat_meth, sat_one, sat_oNone, sat_oSome, sat_sl, sat_tup, sat_lst, sat_loc, ss_nil, ss_seq, ss_set, ss_expr, ss_ret, ss_retN, ss_if, ss_tg, ss_par, ss_sub, ss_for, sat_comp, setTg, setTgs, wipeP, sizeLine_eq, List.map_cons, List.map_nil, List.length_cons, List.length_nil, List.cons_append, List.nil_append, List.set_cons_zero, List.set_cons_succ, List.getElem?_cons_zero, List.getElem?_cons_succ, Nat.reduceAdd, Nat.reduceSub, Nat.reduceLeDiff, List.reduceReplicate, Option.some.injEq, exists_eq_left', true_and, and_true, Nat.zero_add, o_addI, o_addS, o_addT, o_addL, o_subI, o_mulI, o_fdivI, o_modI, o_powI, o_negI, o_eqI, o_neI, o_eqS, o_neS, o_ltI, o_gtI, o_leI, o_geI, o_ltS, o_geS, o_inS, o_notInS, o_isN, o_isNotN, o_isT, o_isNotT, o_isS, o_isNotS, o_int, o_intB, o_abs, o_str, o_lenT, o_lenL, o_lenF, o_lenS, o_ixT, o_ixL, o_ixF, ixW_0, ixW_1, ixW_2, o_isStr, o_tupL, o_tupT, o_listT, o_listL, o_listLocT, o_gcd, o_bits, o_finF, o_finT, sat_iVal, sat_iEnum, sat_iRange1, sat_iRange2, o_itT, o_itL, o_itF, o_itS, o_enT, o_rng]
    refine for_invN (k := 0) (fun i e t => t = s ∧ (∃ w, e = ([some (PV.str z), w] : PEnv)) ∧ (z.cps.toList.take i).all okC = true) ⟨rfl, ⟨_, rfl⟩, by simp⟩ ?_ ?_
    · rintro i v e t hv ⟨rfl, ⟨w, rfl⟩, ha⟩
      rw [Nat.zero_add] at ha ⊢
      obtain ⟨d, hd, rfl⟩ : ∃ d, z.cps.toList[i]? = some d ∧ v = .str ⟨#[d]⟩ := by
        unfold signs at hv
        rw [List.getElem?_map] at hv
        cases hq : z.cps.toList[i]? with
        | none => rw [hq] at hv; cases hv
        | some d => rw [hq] at hv; cases hv; exact ⟨d, rfl, rfl⟩
      refine ⟨_, rfl, ?_⟩
      rw [ss_if, sat_and, sat_test, sat_bin, sat_var rfl, sat_c, o_notInS, sat_truth]
      have fin : okC d = true → (z.cps.toList.take (i + 1)).all okC = true := fun h => by
        rw [List.take_add_one, hd, List.all_append, ha]
        simp [h]
      have bad : okC d = false → z.cps.toList.all okC = false := fun h => by
        rw [← Bool.not_eq_true, List.all_eq_true]
        intro z'
        have := z' d (List.mem_of_getElem? hd)
        rw [h] at this; cases this
      cases hA : inStr ⟨#[d]⟩ LET with
      | true =>
        simp only [Bool.not_true, Bool.false_eq_true, if_false, ss_nil]
        exact ⟨trivial, ⟨_, rfl⟩, fin (by unfold okC; rw [hA]; rfl)⟩
      | false =>
        rw [Bool.not_false, if_pos rfl, sat_test, sat_bin, sat_var rfl, sat_c, o_notInS, sat_truth]
        cases hB : inStr ⟨#[d]⟩ DIG with
        | true =>
          simp only [Bool.not_true, Bool.false_eq_true, if_false, ss_nil]
          exact ⟨trivial, ⟨_, rfl⟩, fin (by unfold okC; rw [hB]; simp)⟩
        | false =>
          simp only [Bool.not_false, if_true, ss_ret, sat_c]
          have := bad (by unfold okC; rw [hA, hB]; rfl)
          rw [this] at k
          exact k
    · rintro e t ⟨rfl, ⟨w, rfl⟩, ha⟩
      refine ⟨rfl, ?_⟩
      have e1 : z.cps.toList.take (0 + (signs z).length) = z.cps.toList := by
        unfold signs
        rw [List.length_map, Nat.zero_add, List.take_length]
      rw [e1] at ha
      exact ha
  · rintro e t ⟨rfl, h⟩
    rw [h] at k
    simp only [sat_ok, sat_bind, sat_v, sat_c, sat_bin, sat_un, sat_test, sat_truth, sat_and, sat_or, sat_not, sat_yes, sat_andv, sat_notv, sat_chain, sat_nil, sat_cons, sat_args, sat_call, sat_callX, sat_meth, sat_one, sat_oNone, sat_oSome, sat_sl, sat_tup, sat_lst, sat_loc, ss_nil, ss_seq, ss_set, ss_expr, ss_ret, ss_retN, ss_if, ss_tg, ss_par, ss_sub, ss_for, sat_comp, setTg, setTgs, wipeP, sizeLine_eq, List.map_cons, List.map_nil, List.length_cons, List.length_nil, List.cons_append, List.nil_append, List.set_cons_zero, List.set_cons_succ, List.getElem?_cons_zero, List.getElem?_cons_succ, Nat.reduceAdd, Nat.reduceSub, Nat.reduceLeDiff, List.reduceReplicate, Option.some.injEq, exists_eq_left', true_and, and_true, Nat.zero_add]
    exact k
def chOf : PV → Nat
  | .str z => z.cps.toList.headD 0
  | _ => 0
theorem sign_test {env : PEnv} {z x : Str} {st : Store} (h1 : env[1]? = some (some (.str LET))) (hl : 2 < env.length) : ∀ v ∈ signs z,
    (tAndM (eTest (eBin pNotIn (eVar 2) (eVar 1))) (eTest (eBin pNotIn (eVar 2) (eC (.str "0123456789"))))) (env.set 2 (some v)) st = .ok (!okC (chOf v)) st := by
  intro v hv
  unfold signs at hv
  obtain ⟨d, hd, rfl⟩ := List.mem_map.mp hv
  have e2 : (env.set 2 (some (PV.str ⟨#[d]⟩)))[2]? = some (some (.str ⟨#[d]⟩)) := List.getElem?_set_self hl
  have e1 : (env.set 2 (some (PV.str ⟨#[d]⟩)))[1]? = some (some (.str LET)) := by rw [List.getElem?_set_ne (by decide)]; exact h1
  have q : ∀ Q : Bool → Store → Prop, Sat ((tAndM (eTest (eBin pNotIn (eVar 2) (eVar 1))) (eTest (eBin pNotIn (eVar 2) (eC (.str "0123456789"))))) (env.set 2 (some (.str ⟨#[d]⟩))) st) Q = Q (!okC d) st := by
    intro Q
    rw [sat_and, sat_test, sat_bin, sat_var e2, sat_var e1, o_notInS, sat_truth]
    unfold okC
    cases hA : inStr ⟨#[d]⟩ LET with
    | true => simp only [Bool.not_true, Bool.false_eq_true, if_false, Bool.true_or]
    | false =>
      rw [Bool.not_false, if_pos rfl, sat_test, sat_bin, sat_var e2, sat_c, o_notInS, sat_truth, Bool.false_or]
  obtain ⟨y, s, g1, g2⟩ := (show Sat ((tAndM (eTest (eBin pNotIn (eVar 2) (eVar 1))) (eTest (eBin pNotIn (eVar 2) (eC (.str "0123456789"))))) (env.set 2 (some (.str ⟨#[d]⟩))) st) (fun y s => y = (!okC d) ∧ s = st) from by rw [q]; exact ⟨rfl, rfl⟩)
  rw [g1, g2.1, g2.2]
  rfl
theorem signs_ok {z : Str} : ((signs z).filter fun v => !okC (chOf v)).length = 0 ↔ z.cps.toList.all okC = true := by
  rw [List.length_eq_zero_iff, List.filter_eq_nil_iff, List.all_eq_true]
  unfold signs
  constructor
  · intro h d hd
    have := h _ (List.mem_map.mpr ⟨d, hd, rfl⟩)
    simpa [chOf] using this
  · intro h v hv
    obtain ⟨d, hd, rfl⟩ := List.mem_map.mp hv
    simpa [chOf] using h d hd
theorem law_is_name_ok {z : Str} {st : Store} {Q : PV → Store → Prop} (hz : z.length ≤ 1000) (k : Q (.bl (isNameP z)) st) : Sat (m_law_is_name [.str z] st) Q := by
  refine sat_body ?_
  unfold f_law_is_name
  simp only [List.map_cons, List.map_nil, List.length_cons, List.length_nil, Nat.reduceAdd, Nat.reduceSub, List.reduceReplicate, List.cons_append, List.nil_append]
  have hsl : z.length ≤ sizeLine := by rw [sizeLine_eq]; omega
  have hlen : z.length = z.cps.toList.length := (Array.length_toList ..).symm
  refine seq_mid (fun e s => e = ([some (PV.str z), some (PV.str LET), none] : PEnv) ∧ s = st) ?_ ?_
  · simp only [sat_ok, sat_bind, sat_v, sat_c, sat_bin, sat_un, sat_test, sat_truth, sat_and, sat_or, sat_not, sat_yes, sat_andv, sat_notv, sat_chain, sat_nil, sat_cons, sat_args, sat_call, sat_callX, sat_meth, sat_one, sat_oNone, sat_oSome, sat_sl, sat_tup, sat_lst, sat_loc, ss_nil, ss_seq, ss_set, ss_expr, ss_ret, ss_retN, ss_if, ss_tg, ss_par, ss_sub, ss_for, sat_comp, setTg, setTgs, wipeP, sizeLine_eq, List.map_cons, List.map_nil, List.length_cons, List.length_nil, List.cons_append, List.nil_append, List.set_cons_zero, List.set_cons_succ, List.getElem?_cons_zero, List.getElem?_cons_succ, Nat.reduceAdd, Nat.reduceSub, Nat.reduceLeDiff, List.reduceReplicate, Option.some.injEq, exists_eq_left', true_and, and_true, Nat.zero_add]
  rintro e st ⟨rfl, rfl⟩
  refine seq_mid (fun e s => e = ([some (PV.str z), some (PV.str LET), none] : PEnv) ∧ s = st ∧ 1 ≤ z.length ∧ z.length ≤ 12 ∧ ∃ c cs, z.cps.toList = c :: cs ∧ inStr ⟨#[c]⟩ LET = true) ?_ ?_
  · rw [ss_if]
    simp only [sat_or, sat_not, sat_test, sat_chain, sat_c, sat_args, sat_cons, sat_v, sat_nil, sat_one, List.getElem?_cons_zero, o_lenS, o_leI, hsl, true_and]
    by_cases h1 : 1 ≤ z.length
    · by_cases h2 : z.length ≤ 12
      · have e1 : decide ((z.length : Int) < 1) = false := by simp; omega
        have e2 : decide ((12 : Int) < (z.length : Int)) = false := by simp; omega
        cases hc : z.cps.toList with
        | nil => rw [hc] at hlen; simp at hlen; omega
        | cons c cs =>
          simp only [e1, e2, Bool.not_false, sat_truth, Bool.not_true, Bool.false_eq_true, if_false, sat_bin, sat_v, sat_c, List.getElem?_cons_zero, List.getElem?_cons_succ, ix0S hc hsl, o_notInS]
          cases hL : inStr ⟨#[c]⟩ LET with
          | true =>
            simp only [Bool.not_true, Bool.false_eq_true, if_false, ss_nil]
            exact ⟨trivial, trivial, h1, h2, c, cs, rfl, hL⟩
          | false =>
            simp only [Bool.not_false, if_true, ss_ret, sat_c]
            have : isNameP z = false := by unfold isNameP; rw [hc]; simp only [hL, Bool.and_false, Bool.false_and]
            rw [this] at k; exact k
      · have : isNameP z = false := by unfold isNameP; rw [decide_eq_false h2]; simp only [Bool.and_false, Bool.false_and]
        rw [this] at k
        have e1 : decide ((z.length : Int) < 1) = false := by simp; omega
        have e2 : decide ((12 : Int) < (z.length : Int)) = true := by simp; omega
        simp only [e1, e2, Bool.not_false, sat_truth, Bool.not_true, Bool.false_eq_true, if_false, if_true, ss_ret, sat_c]
        exact k
    · have : isNameP z = false := by unfold isNameP; rw [decide_eq_false h1]; simp only [Bool.and_false, Bool.false_and]
      rw [this] at k
      have e1 : decide ((z.length : Int) < 1) = true := by simp; omega
      simp only [e1, Bool.not_true, sat_truth, Bool.not_false, Bool.false_eq_true, if_false, if_true, ss_ret, sat_c]
      exact k
  rintro e s ⟨rfl, rfl, h1, h2, c, cs, hc, hL⟩
  have hP : isNameP z = z.cps.toList.all okC := by
    unfold isNameP
    rw [decide_eq_true h1, decide_eq_true h2, hc]
    simp only [hL, Bool.and_true, Bool.true_and]
  rw [hP] at k
  rw [ss_ret, sat_bin, sat_args, sat_cons, sat_comp, sat_iVal, sat_var rfl, o_itS]
  refine comp_pick (fun v => !okC (chOf v)) (by simp [wipeP]) (by unfold signs; rw [List.length_map]; omega) (sign_test (x := z) rfl (by simp [wipeP])) ?_
  rw [o_finF, sat_nil, sat_one, o_lenL, sat_c, o_eqI]
  have : decide ((((signs z).filter fun v => !okC (chOf v)).length : Int) = 0) = z.cps.toList.all okC := by
    rw [Bool.eq_iff_iff, ← signs_ok]
    simp only [decide_eq_true_eq]
    omega
  rw [this]
  exact k
end PL
/-! PL, part M4: rows, judged by both. -/
namespace PL
open PySem PySem.Spec PyProof.Rows L2
theorem map_div_eq {g : Nat} : ∀ {ws : List Int}, ws ≠ [] → (∀ w ∈ ws, 1 ≤ w) → ((ws.map fun w => w / (g : Int)) = ws ↔ g = 1)
  | [], h, _ => absurd rfl h
  | w :: ws, _, h => by
    constructor
    · intro e
      have hw := h w List.mem_cons_self
      rw [List.map_cons, List.cons.injEq] at e
      have e1 := e.1
      by_cases hg : g = 1
      · exact hg
      · exfalso
        rcases Nat.lt_or_ge g 1 with z | z
        · have : g = 0 := by omega
          subst this
          simp at e1
          omega
        · have h2 : (2 : Int) ≤ (g : Int) := by omega
          have : w / (g : Int) < w := Int.ediv_lt_self_of_pos_of_ne_one (by omega) (by omega)
          omega
    · rintro rfl
      simp
theorem gcds_take {ws : List Int} {i : Nat} {z : Int} (hz : ws[i]? = some z) : gcds (ws.take (i + 1)) = Nat.gcd (gcds (ws.take i)) z.natAbs := by
  rw [List.take_add_one, hz]
  show (ws.take i ++ [z]).foldl _ 0 = _
  rw [List.foldl_append]
  rfl
theorem get_int {ws : List Int} {i : Nat} {v : PV} (hv : (ints' ws)[i]? = some v) : ∃ z, ws[i]? = some z ∧ v = .int z := by
  rw [List.getElem?_map] at hv
  cases e : ws[i]? with
  | none => rw [e] at hv; cases hv
  | some z => rw [e] at hv; cases hv; exact ⟨z, rfl, rfl⟩
theorem prog_reduced_ok {st : Store} {ws : List Int} {Q : PV → Store → Prop} (h1 : ∀ w ∈ ws, Mod1 w) (hn : ws.length ≤ 1000)
    (k : Q (.tup (ints' (if gcds ws = 0 then ws else ws.map fun w => w / (gcds ws : Int)))) st) : Sat (m_reduced [.tup (ints' ws)] st) Q := by
  refine sat_body ?_
  unfold f_reduced
  simp only [sat_ok, sat_bind, sat_v, sat_c, sat_bin, sat_un, sat_test, sat_truth, sat_and, sat_or, sat_not, sat_yes, sat_andv, sat_notv, sat_chain, sat_nil, sat_cons, sat_args, sat_call, sat_callX, sat_meth, sat_one, sat_oNone, sat_oSome, sat_sl, sat_tup, sat_lst, sat_loc, ss_nil, ss_seq, ss_set, ss_expr, ss_ret, ss_retN, ss_if, ss_tg, ss_par, ss_sub, ss_for, sat_comp, setTg, setTgs, wipeP, sizeLine_eq, List.map_cons, List.map_nil, List.length_cons, List.length_nil, List.cons_append, List.nil_append, List.set_cons_zero, List.set_cons_succ, List.getElem?_cons_zero, List.getElem?_cons_succ, Nat.reduceAdd, Nat.reduceSub, Nat.reduceLeDiff, List.reduceReplicate, Option.some.injEq, exists_eq_left', true_and, and_true, Nat.zero_add, o_addI, o_addS, o_addT, o_addL, o_subI, o_mulI, o_fdivI, o_modI, o_powI, o_negI, o_eqI, o_neI, o_eqS, o_neS, o_ltI, o_gtI, o_leI, o_geI, o_ltS, o_geS, o_inS, o_notInS, o_isN, o_isNotN, o_isT, o_isNotT, o_isS, o_isNotS, o_int, o_intB, o_abs, o_str, o_lenT, o_lenL, o_lenF, o_lenS, o_ixT, o_ixL, o_ixF, ixW_0, ixW_1, ixW_2, o_isStr, o_tupL, o_tupT, o_listT, o_listL, o_listLocT, o_gcd, o_bits, o_finF, o_finT, sat_iVal, sat_iEnum, sat_iRange1, sat_iRange2, o_itT, o_itL, o_itF, o_itS, o_enT, o_rng]
  refine for_invN (k := 0) (fun i e s => s = st ∧ ∃ w, e = ([some (PV.tup (ints' ws)), some (PV.int ((gcds (ws.take i) : Nat) : Int)), w] : PEnv)) ⟨rfl, none, rfl⟩ ?_ ?_
  · rintro i x e s hv ⟨rfl, w, rfl⟩
    obtain ⟨z, hz, rfl⟩ := get_int hv
    rw [Nat.zero_add]
    simp only [sat_ok, sat_bind, sat_v, sat_c, sat_bin, sat_un, sat_test, sat_truth, sat_and, sat_or, sat_not, sat_yes, sat_andv, sat_notv, sat_chain, sat_nil, sat_cons, sat_args, sat_call, sat_callX, sat_meth, sat_one, sat_oNone, sat_oSome, sat_sl, sat_tup, sat_lst, sat_loc, ss_nil, ss_seq, ss_set, ss_expr, ss_ret, ss_retN, ss_if, ss_tg, ss_par, ss_sub, ss_for, sat_comp, setTg, setTgs, wipeP, sizeLine_eq, List.map_cons, List.map_nil, List.length_cons, List.length_nil, List.cons_append, List.nil_append, List.set_cons_zero, List.set_cons_succ, List.getElem?_cons_zero, List.getElem?_cons_succ, Nat.reduceAdd, Nat.reduceSub, Nat.reduceLeDiff, List.reduceReplicate, Option.some.injEq, exists_eq_left', true_and, and_true, Nat.zero_add, o_addI, o_addS, o_addT, o_addL, o_subI, o_mulI, o_fdivI, o_modI, o_powI, o_negI, o_eqI, o_neI, o_eqS, o_neS, o_ltI, o_gtI, o_leI, o_geI, o_ltS, o_geS, o_inS, o_notInS, o_isN, o_isNotN, o_isT, o_isNotT, o_isS, o_isNotS, o_int, o_intB, o_abs, o_str, o_lenT, o_lenL, o_lenF, o_lenS, o_ixT, o_ixL, o_ixF, ixW_0, ixW_1, ixW_2, o_isStr, o_tupL, o_tupT, o_listT, o_listL, o_listLocT, o_gcd, o_bits, o_finF, o_finT, sat_iVal, sat_iEnum, sat_iRange1, sat_iRange2, o_itT, o_itL, o_itF, o_itS, o_enT, o_rng]
    refine ⟨some (.int z), ?_⟩
    rw [gcds_take hz, Int.natAbs_natCast]
  · rintro e s ⟨rfl, w, rfl⟩
    have e1 : ws.take (0 + (ints' ws).length) = ws := by simp
    rw [e1]
    simp only [sat_ok, sat_bind, sat_v, sat_c, sat_bin, sat_un, sat_test, sat_truth, sat_and, sat_or, sat_not, sat_yes, sat_andv, sat_notv, sat_chain, sat_nil, sat_cons, sat_args, sat_call, sat_callX, sat_meth, sat_one, sat_oNone, sat_oSome, sat_sl, sat_tup, sat_lst, sat_loc, ss_nil, ss_seq, ss_set, ss_expr, ss_ret, ss_retN, ss_if, ss_tg, ss_par, ss_sub, ss_for, sat_comp, setTg, setTgs, wipeP, sizeLine_eq, List.map_cons, List.map_nil, List.length_cons, List.length_nil, List.cons_append, List.nil_append, List.set_cons_zero, List.set_cons_succ, List.getElem?_cons_zero, List.getElem?_cons_succ, Nat.reduceAdd, Nat.reduceSub, Nat.reduceLeDiff, List.reduceReplicate, Option.some.injEq, exists_eq_left', true_and, and_true, Nat.zero_add, o_addI, o_addS, o_addT, o_addL, o_subI, o_mulI, o_fdivI, o_modI, o_powI, o_negI, o_eqI, o_neI, o_eqS, o_neS, o_ltI, o_gtI, o_leI, o_geI, o_ltS, o_geS, o_inS, o_notInS, o_isN, o_isNotN, o_isT, o_isNotT, o_isS, o_isNotS, o_int, o_intB, o_abs, o_str, o_lenT, o_lenL, o_lenF, o_lenS, o_ixT, o_ixL, o_ixF, ixW_0, ixW_1, ixW_2, o_isStr, o_tupL, o_tupT, o_listT, o_listL, o_listLocT, o_gcd, o_bits, o_finF, o_finT, sat_iVal, sat_iEnum, sat_iRange1, sat_iRange2, o_itT, o_itL, o_itF, o_itS, o_enT, o_rng]
    by_cases h0 : gcds ws = 0
    · rw [if_pos (by simp [h0])]
      rw [if_pos h0] at k
      exact k
    · rw [if_neg (by simpa using h0)]
      have hpos : 0 < gcds ws := Nat.pos_of_ne_zero h0
      refine comp_inv (fun i acc t => t = s ∧ acc = ints' ((ws.take i).map fun w => w / (gcds ws : Int))) (k := 0) ⟨rfl, rfl⟩ ?_ ?_
      · rintro i x t acc hv ⟨rfl, rfl⟩
        obtain ⟨z, hz, rfl⟩ := get_int hv
        have hm := h1 z (List.mem_of_getElem? hz)
        simp only [sat_ok, sat_bind, sat_v, sat_c, sat_bin, sat_un, sat_test, sat_truth, sat_and, sat_or, sat_not, sat_yes, sat_andv, sat_notv, sat_chain, sat_nil, sat_cons, sat_args, sat_call, sat_callX, sat_meth, sat_one, sat_oNone, sat_oSome, sat_sl, sat_tup, sat_lst, sat_loc, ss_nil, ss_seq, ss_set, ss_expr, ss_ret, ss_retN, ss_if, ss_tg, ss_par, ss_sub, ss_for, sat_comp, setTg, setTgs, wipeP, sizeLine_eq, List.map_cons, List.map_nil, List.length_cons, List.length_nil, List.cons_append, List.nil_append, List.set_cons_zero, List.set_cons_succ, List.getElem?_cons_zero, List.getElem?_cons_succ, Nat.reduceAdd, Nat.reduceSub, Nat.reduceLeDiff, List.reduceReplicate, Option.some.injEq, exists_eq_left', true_and, and_true, Nat.zero_add, o_addI, o_addS, o_addT, o_addL, o_subI, o_mulI, o_fdivI, o_modI, o_powI, o_negI, o_eqI, o_neI, o_eqS, o_neS, o_ltI, o_gtI, o_leI, o_geI, o_ltS, o_geS, o_inS, o_notInS, o_isN, o_isNotN, o_isT, o_isNotT, o_isS, o_isNotS, o_int, o_intB, o_abs, o_str, o_lenT, o_lenL, o_lenF, o_lenS, o_ixT, o_ixL, o_ixF, ixW_0, ixW_1, ixW_2, o_isStr, o_tupL, o_tupT, o_listT, o_listL, o_listLocT, o_gcd, o_bits, o_finF, o_finT, sat_iVal, sat_iEnum, sat_iRange1, sat_iRange2, o_itT, o_itL, o_itF, o_itS, o_enT, o_rng, if_true]
        have hle : gcds ws ≤ z.natAbs := Nat.le_of_dvd (by have := hm.1; omega) (gcds_dvd (List.mem_of_getElem? hz))
        refine ⟨⟨by omega, ?_⟩, ?_, ?_⟩
        · rw [Int.natAbs_natCast]
          have := (Nat.log2_lt h0).mpr (Nat.lt_of_le_of_lt hle hm.2)
          omega
        · have : (ints' ((ws.take i).map fun w => w / (gcds ws : Int))).length ≤ 1000 := by simp; omega
          omega
        · have e1 : ws.take (i + 1) = ws.take i ++ [z] := by
            rw [List.take_add_one, hz]; rfl
          rw [e1]
          simp
      · rintro acc t ⟨rfl, rfl⟩
        have e1 : ws.take (0 + (ints' ws).length) = ws := by simp
        rw [e1]
        rw [if_neg h0] at k
        simpa only [sat_ok, sat_bind, sat_v, sat_c, sat_bin, sat_un, sat_test, sat_truth, sat_and, sat_or, sat_not, sat_yes, sat_andv, sat_notv, sat_chain, sat_nil, sat_cons, sat_args, sat_call, sat_callX, sat_meth, sat_one, sat_oNone, sat_oSome, sat_sl, sat_tup, sat_lst, sat_loc, ss_nil, ss_seq, ss_set, ss_expr, ss_ret, ss_retN, ss_if, ss_tg, ss_par, ss_sub, ss_for, sat_comp, setTg, setTgs, wipeP, sizeLine_eq, List.map_cons, List.map_nil, List.length_cons, List.length_nil, List.cons_append, List.nil_append, List.set_cons_zero, List.set_cons_succ, List.getElem?_cons_zero, List.getElem?_cons_succ, Nat.reduceAdd, Nat.reduceSub, Nat.reduceLeDiff, List.reduceReplicate, Option.some.injEq, exists_eq_left', true_and, and_true, Nat.zero_add, o_addI, o_addS, o_addT, o_addL, o_subI, o_mulI, o_fdivI, o_modI, o_powI, o_negI, o_eqI, o_neI, o_eqS, o_neS, o_ltI, o_gtI, o_leI, o_geI, o_ltS, o_geS, o_inS, o_notInS, o_isN, o_isNotN, o_isT, o_isNotT, o_isS, o_isNotS, o_int, o_intB, o_abs, o_str, o_lenT, o_lenL, o_lenF, o_lenS, o_ixT, o_ixL, o_ixF, ixW_0, ixW_1, ixW_2, o_isStr, o_tupL, o_tupT, o_listT, o_listL, o_listLocT, o_gcd, o_bits, o_finF, o_finT, sat_iVal, sat_iEnum, sat_iRange1, sat_iRange2, o_itT, o_itL, o_itF, o_itS, o_enT, o_rng] using k
theorem eqv_ints : ∀ (a b : List Int), PyData.eqvAll (a.map .int) (b.map .int) = decide (a = b)
  | [], [] => by simp [PyData.eqvAll]
  | [], _ :: _ => by simp [PyData.eqvAll]
  | _ :: _, [] => by simp [PyData.eqvAll]
  | x :: xs, y :: ys => by
    rw [List.map_cons, List.map_cons, PyData.eqvAll, PyData.eqv, eqv_ints xs ys]
    by_cases h : x = y <;> by_cases h' : xs = ys <;> simp [h, h']
theorem o_eqT {a b : List Int} {st : Store} {Q : PV → Store → Prop} : Sat (pEq (.tup (ints' a)) (.tup (ints' b)) st) Q = Q (.bl (decide (a = b))) st := by
  unfold pEq
  rw [if_pos ⟨by simp [isD, isDs_ints], by simp [isD, isDs_ints], by simp [toD, toDs_ints, PyData.depth, depth_ints]⟩, sat_ok]
  simp only [toD, toDs_ints, PyData.eqv, eqv_ints]
def wOne (owner w : Int) : Bool := decide (1 ≤ w) && (decide (owner = 0) || decide (w = 1))
def weightsOk (owner : Int) (ws : List Int) : Bool := decide (1 ≤ ws.length) && decide (ws.length ≤ 64) && ws.all (wOne owner) && decide (gcds ws = 1)
end PL
/-! PL, part M5: weights, rows, judged by both. -/
namespace PL
open PySem PySem.Spec PyProof.Rows L2
theorem all_false {α : Type} {p : α → Bool} {l : List α} {x : α} (m : x ∈ l) (h : p x = false) : l.all p = false := by
  rw [← Bool.not_eq_true, List.all_eq_true]
  intro z
  rw [z x m] at h; cases h
theorem are_weights_ok {o : Int} {ws : List Int} {st : Store} {Q : PV → Store → Prop} (hw : ∀ w ∈ ws, w.natAbs < 2 ^ 200) (hn : ws.length ≤ 1000) (k : Q (.bl (weightsOk o ws)) st) : Sat (m_are_weights [.int o, .tup (ints' ws)] st) Q := by
  refine sat_body ?_
  unfold f_are_weights
  simp only [List.map_cons, List.map_nil, List.length_cons, List.length_nil, Nat.reduceAdd, Nat.reduceSub, List.reduceReplicate, List.cons_append, List.nil_append]
  refine seq_mid (fun e s => e = ([some (PV.int o), some (.tup (ints' ws)), none] : PEnv) ∧ s = st ∧ 1 ≤ ws.length ∧ ws.length ≤ 64) ?_ ?_
  · rw [ss_if]
    simp only [sat_not, sat_test, sat_chain, sat_c, sat_args, sat_cons, sat_v, sat_nil, sat_one, List.getElem?_cons_zero, List.getElem?_cons_succ, o_lenT, o_leI, List.length_map]
    by_cases h1 : 1 ≤ ws.length
    · by_cases h2 : ws.length ≤ 64
      · have e1 : decide ((ws.length : Int) < 1) = false := by simp; omega
        have e2 : decide ((64 : Int) < (ws.length : Int)) = false := by simp; omega
        simp only [e1, e2, Bool.not_false, sat_truth, Bool.not_true, Bool.false_eq_true, if_false, ss_nil]
        exact ⟨trivial, trivial, h1, h2⟩
      · have : weightsOk o ws = false := by unfold weightsOk; rw [decide_eq_false h2]; simp only [Bool.and_false, Bool.false_and]
        rw [this] at k
        have e1 : decide ((ws.length : Int) < 1) = false := by simp; omega
        have e2 : decide ((64 : Int) < (ws.length : Int)) = true := by simp; omega
        simp only [e1, e2, Bool.not_false, sat_truth, Bool.not_true, Bool.false_eq_true, if_false, if_true, ss_ret, sat_c]
        exact k
    · have : weightsOk o ws = false := by unfold weightsOk; rw [decide_eq_false h1]; simp only [Bool.and_false, Bool.false_and]
      rw [this] at k
      have e1 : decide ((ws.length : Int) < 1) = true := by simp; omega
      simp only [e1, Bool.not_true, sat_truth, Bool.not_false, Bool.false_eq_true, if_false, if_true, ss_ret, sat_c]
      exact k
  rintro e s ⟨rfl, rfl, h1, h2⟩
  refine seq_mid (fun e t => (∃ w, e = ([some (PV.int o), some (.tup (ints' ws)), w] : PEnv)) ∧ t = s ∧ ws.all (wOne o) = true) ?_ ?_
  · simp only [sat_ok, sat_bind, sat_v, sat_c, sat_bin, sat_un, sat_test, sat_truth, sat_and, sat_or, sat_not, sat_yes, sat_andv, sat_notv, sat_chain, sat_nil, sat_cons, sat_args, sat_call, sat_callX, sat_meth, sat_one, sat_oNone, sat_oSome, sat_sl, sat_tup, sat_lst, sat_loc, ss_nil, ss_seq, ss_set, ss_expr, ss_ret, ss_retN, ss_if, ss_tg, ss_par, ss_sub, ss_for, sat_comp, setTg, setTgs, wipeP, sizeLine_eq, List.map_cons, List.map_nil, List.length_cons, List.length_nil, List.cons_append, List.nil_append, List.set_cons_zero, List.set_cons_succ, List.getElem?_cons_zero, List.getElem?_cons_succ, Nat.reduceAdd, Nat.reduceSub, Nat.reduceLeDiff, List.reduceReplicate, Option.some.injEq, exists_eq_left', true_and, and_true, Nat.zero_add, o_addI, o_addS, o_addT, o_addL, o_subI, o_mulI, o_fdivI, o_modI, o_powI, o_negI, o_eqI, o_neI, o_eqS, o_neS, o_ltI, o_gtI, o_leI, o_geI, o_ltS, o_geS, o_inS, o_notInS, o_isN, o_isNotN, o_isT, o_isNotT, o_isS, o_isNotS, o_int, o_intB, o_abs, o_str, o_lenT, o_lenL, o_lenF, o_lenS, o_ixT, o_ixL, o_ixF, ixW_0, ixW_1, ixW_2, o_isStr, o_tupL, o_tupT, o_listT, o_listL, o_listLocT, o_gcd, o_bits, o_finF, o_finT, sat_iVal, sat_iEnum, sat_iRange1, sat_iRange2, o_itT, o_itL, o_itF, o_itS, o_enT, o_rng]
    refine for_invN (k := 0) (fun i e t => t = s ∧ (∃ w, e = ([some (PV.int o), some (.tup (ints' ws)), w] : PEnv)) ∧ (ws.take i).all (wOne o) = true) ⟨rfl, ⟨_, rfl⟩, by simp⟩ ?_ ?_
    · rintro i v e t hv ⟨rfl, ⟨w, rfl⟩, ha⟩
      rw [Nat.zero_add] at ha ⊢
      obtain ⟨z, hz, rfl⟩ := get_int hv
      refine ⟨_, rfl, ?_⟩
      rw [ss_if]
      simp only [sat_or, sat_and, sat_test, sat_bin, sat_v, sat_c, List.set_cons_zero, List.set_cons_succ, List.getElem?_cons_zero, List.getElem?_cons_succ, o_ltI, o_neI, sat_truth]
      have fin : wOne o z = true → (ws.take (i + 1)).all (wOne o) = true := fun h => by
        rw [List.take_add_one, hz, List.all_append, ha]
        simp [h]
      have bad : wOne o z = false → Q (.bl false) t := fun h => by
        have : weightsOk o ws = false := by unfold weightsOk; rw [all_false (List.mem_of_getElem? hz) h]; simp only [Bool.and_false, Bool.false_and]
        rwa [this] at k
      by_cases hz1 : z < 1
      · rw [decide_eq_true hz1, if_pos rfl, if_pos trivial, ss_ret, sat_c]
        exact bad (by unfold wOne; rw [decide_eq_false (show ¬ 1 ≤ z by omega), Bool.false_and])
      · rw [decide_eq_false hz1, if_neg (by simp)]
        have e0 : decide (1 ≤ z) = true := by simp; omega
        by_cases ho : o = 0
        · rw [decide_eq_true ho, Bool.not_true, if_neg (by simp), if_neg (by simp), ss_nil]
          exact ⟨rfl, ⟨_, rfl⟩, fin (by unfold wOne; rw [e0, decide_eq_true ho]; rfl)⟩
        · rw [decide_eq_false ho, Bool.not_false, if_pos rfl]
          by_cases hz2 : z = 1
          · rw [decide_eq_true hz2, Bool.not_true, if_neg (by simp), ss_nil]
            exact ⟨rfl, ⟨_, rfl⟩, fin (by unfold wOne; rw [e0, decide_eq_true hz2]; simp)⟩
          · rw [decide_eq_false hz2, Bool.not_false, if_pos rfl, ss_ret, sat_c]
            exact bad (by unfold wOne; rw [e0, decide_eq_false hz2, decide_eq_false ho]; rfl)
    · rintro e t ⟨rfl, ⟨w, rfl⟩, ha⟩
      have e1 : ws.take (0 + (ints' ws).length) = ws := by simp
      rw [e1] at ha
      exact ⟨⟨_, rfl⟩, rfl, ha⟩
  rintro e t ⟨⟨w, rfl⟩, rfl, ha⟩
  have hm : ∀ w ∈ ws, Mod1 w := fun w m => ⟨by
    have := List.all_eq_true.mp ha w m
    unfold wOne at this
    simp only [Bool.and_eq_true, decide_eq_true_eq] at this
    exact this.1, hw w m⟩
  simp only [sat_ok, sat_bind, sat_v, sat_c, sat_bin, sat_un, sat_test, sat_truth, sat_and, sat_or, sat_not, sat_yes, sat_andv, sat_notv, sat_chain, sat_nil, sat_cons, sat_args, sat_call, sat_callX, sat_meth, sat_one, sat_oNone, sat_oSome, sat_sl, sat_tup, sat_lst, sat_loc, ss_nil, ss_seq, ss_set, ss_expr, ss_ret, ss_retN, ss_if, ss_tg, ss_par, ss_sub, ss_for, sat_comp, setTg, setTgs, wipeP, sizeLine_eq, List.map_cons, List.map_nil, List.length_cons, List.length_nil, List.cons_append, List.nil_append, List.set_cons_zero, List.set_cons_succ, List.getElem?_cons_zero, List.getElem?_cons_succ, Nat.reduceAdd, Nat.reduceSub, Nat.reduceLeDiff, List.reduceReplicate, Option.some.injEq, exists_eq_left', true_and, and_true, Nat.zero_add, o_addI, o_addS, o_addT, o_addL, o_subI, o_mulI, o_fdivI, o_modI, o_powI, o_negI, o_eqI, o_neI, o_eqS, o_neS, o_ltI, o_gtI, o_leI, o_geI, o_ltS, o_geS, o_inS, o_notInS, o_isN, o_isNotN, o_isT, o_isNotT, o_isS, o_isNotS, o_int, o_intB, o_abs, o_str, o_lenT, o_lenL, o_lenF, o_lenS, o_ixT, o_ixL, o_ixF, ixW_0, ixW_1, ixW_2, o_isStr, o_tupL, o_tupT, o_listT, o_listL, o_listLocT, o_gcd, o_bits, o_finF, o_finT, sat_iVal, sat_iEnum, sat_iRange1, sat_iRange2, o_itT, o_itL, o_itF, o_itS, o_enT, o_rng]
  refine prog_reduced_ok hm hn ?_
  simp only [sat_ok, sat_bind, sat_v, sat_c, sat_bin, sat_un, sat_test, sat_truth, sat_and, sat_or, sat_not, sat_yes, sat_andv, sat_notv, sat_chain, sat_nil, sat_cons, sat_args, sat_call, sat_callX, sat_meth, sat_one, sat_oNone, sat_oSome, sat_sl, sat_tup, sat_lst, sat_loc, ss_nil, ss_seq, ss_set, ss_expr, ss_ret, ss_retN, ss_if, ss_tg, ss_par, ss_sub, ss_for, sat_comp, setTg, setTgs, wipeP, sizeLine_eq, List.map_cons, List.map_nil, List.length_cons, List.length_nil, List.cons_append, List.nil_append, List.set_cons_zero, List.set_cons_succ, List.getElem?_cons_zero, List.getElem?_cons_succ, Nat.reduceAdd, Nat.reduceSub, Nat.reduceLeDiff, List.reduceReplicate, Option.some.injEq, exists_eq_left', true_and, and_true, Nat.zero_add, o_addI, o_addS, o_addT, o_addL, o_subI, o_mulI, o_fdivI, o_modI, o_powI, o_negI, o_eqI, o_neI, o_eqS, o_neS, o_ltI, o_gtI, o_leI, o_geI, o_ltS, o_geS, o_inS, o_notInS, o_isN, o_isNotN, o_isT, o_isNotT, o_isS, o_isNotS, o_int, o_intB, o_abs, o_str, o_lenT, o_lenL, o_lenF, o_lenS, o_ixT, o_ixL, o_ixF, ixW_0, ixW_1, ixW_2, o_isStr, o_tupL, o_tupT, o_listT, o_listL, o_listLocT, o_gcd, o_bits, o_finF, o_finT, sat_iVal, sat_iEnum, sat_iRange1, sat_iRange2, o_itT, o_itL, o_itF, o_itS, o_enT, o_rng, o_eqT]
  have hne : ws ≠ [] := by intro z; subst z; simp at h1
  have hg0 : gcds ws ≠ 0 := by
    have : 0 < gcds ws := by
      obtain ⟨w, r, rfl⟩ := List.exists_cons_of_ne_nil hne
      exact gcds_pos ⟨w, List.mem_cons_self, by have := (hm w List.mem_cons_self).1; omega⟩
    omega
  rw [if_neg hg0]
  have : weightsOk o ws = decide ((ws.map fun w => w / (gcds ws : Int)) = ws) := by
    unfold weightsOk
    rw [decide_eq_true h1, decide_eq_true h2, ha]
    simp only [Bool.true_and]
    rw [decide_eq_decide]
    exact (map_div_eq hne fun w m => (hm w m).1).symm
  rwa [this] at k
theorem foldl_min {ws : List Int} : ∀ {a : Int}, (ws.foldl min a < 1 ↔ ¬ (1 ≤ a ∧ ∀ w ∈ ws, 1 ≤ w)) := by
  induction ws with
  | nil => intro a; first | (simp; done) | (simp; omega)
  | cons w ws ih =>
    intro a
    rw [List.foldl_cons, ih]
    simp only [List.mem_cons, forall_eq_or_imp, Int.le_min, and_assoc]
theorem foldl_max {ws : List Int} : ∀ {a : Int}, (1 < ws.foldl max a ↔ ¬ (a ≤ 1 ∧ ∀ w ∈ ws, w ≤ 1)) := by
  induction ws with
  | nil => intro a; simp
  | cons w ws ih =>
    intro a
    rw [List.foldl_cons, ih]
    simp only [List.mem_cons, forall_eq_or_imp, Int.max_le, and_assoc]
theorem o_minT {w : Int} {ws : List Int} {st : Store} {Q : PV → Store → Prop} : Sat (pMin (.tup (ints' (w :: ws))) st) Q = Q (.int (ws.foldl min w)) st := by
  have : pMin (.tup (ints' (w :: ws))) st = .ok (.int (ws.foldl min w)) st := by
    unfold pMin
    simp only [seqOf, intsOf_ints]
  rw [this, sat_ok]
theorem o_maxT {w : Int} {ws : List Int} {st : Store} {Q : PV → Store → Prop} : Sat (pMax (.tup (ints' (w :: ws))) st) Q = Q (.int (ws.foldl max w)) st := by
  have : pMax (.tup (ints' (w :: ws))) st = .ok (.int (ws.foldl max w)) st := by
    unfold pMax
    simp only [seqOf, intsOf_ints]
  rw [this, sat_ok]
def ownOk (o : Int) : Bool := decide (0 ≤ o) && decide (o ≤ 2)
theorem inOwn {o : Int} {st : Store} {Q : PV → Store → Prop} : Sat (pNotIn (.int o) (.tup [.int 0, .int 1, .int 2]) st) Q = Q (.bl (!ownOk o)) st := by
  have : pNotIn (.int o) (.tup [.int 0, .int 1, .int 2]) st = .ok (.bl (!ownOk o)) st := by
    unfold pNotIn
    simp only [seqOf]
    rw [if_pos (by simp [isD, isDs, toD, toDs, PyData.depth, PyData.depthAll])]
    have : inD (.int o) [.int 0, .int 1, .int 2] = ownOk o := by
      unfold inD ownOk
      rw [Bool.eq_iff_iff]
      simp only [List.any_cons, List.any_nil, toD, PyData.eqv, Bool.or_eq_true, beq_iff_eq, Bool.and_eq_true, decide_eq_true_eq, Bool.or_false]
      omega
    rw [this]
  rw [this, sat_ok]
end PL
/-! PL, part M6: rows, judged by both. -/
namespace PL
open PySem PySem.Spec PyProof.Rows L2
/-- what answers every wish with a value is worth it -/
theorem det {α : Type} {r : Res α} {a : α} {st : Store} (h : ∀ Q : α → Store → Prop, Q a st → Sat r Q) : r = .ok a st := by
  obtain ⟨b, s, e, h1, h2⟩ := h (fun x s => x = a ∧ s = st) ⟨rfl, rfl⟩
  rw [e, h1, h2]
theorem ss_guard {c : TM} {rest : SM} {v : PV} {env : PEnv} {st : Store} {N R} {b : Bool} (hc : c env st = .ok b st) : SatS (sSeq (sIf c (sRet (eC v)) sNil) rest env st) N R = if b = true then R v st else SatS (rest env st) N R := by
  rw [ss_seq, ss_if, hc, sat_ok]
  cases b with
  | true => simp only [if_true, ss_ret, sat_c]
  | false => simp only [Bool.false_eq_true, if_false, ss_nil]
theorem is_name_eq {z : Str} {st : Store} (hz : z.length ≤ 1000) : m_is_name [.str z] st = .ok (.bl (isNameP z)) st := det fun Q k => is_name_ok hz k
theorem law_is_name_eq {z : Str} {st : Store} (hz : z.length ≤ 1000) : m_law_is_name [.str z] st = .ok (.bl (isNameP z)) st := det fun Q k => law_is_name_ok hz k
theorem are_weights_eq {o : Int} {ws : List Int} {st : Store} (hw : ∀ w ∈ ws, w.natAbs < 2 ^ 200) (hn : ws.length ≤ 1000) : m_are_weights [.int o, .tup (ints' ws)] st = .ok (.bl (weightsOk o ws)) st := det fun Q k => are_weights_ok hw hn k
theorem t_ok {f : EM} {env : PEnv} {st : Store} {b : Bool} (h : ∀ Q : PV → Store → Prop, Q (.bl b) st → Sat (f env st) Q) : eTest f env st = .ok b st := by
  refine det fun Q k => ?_
  rw [sat_test]
  exact h _ (by rw [sat_truth]; exact k)
theorem tn_ok {f : TM} {env : PEnv} {st : Store} {b : Bool} (h : f env st = .ok b st) : tNotM f env st = .ok (!b) st := by
  refine det fun Q k => ?_
  rw [sat_not, h, sat_ok]; exact k
def rowKind (i : Nat) (p n : Str) (o : Int) (ws : List Int) : Str :=
  if isNameP n = false then "name" else if (decide (0 < i) && !strLt p n) = true then "order" else if ownOk o = false then "owner" else if weightsOk o ws = false then "weights" else ""
theorem pos_i {i : Nat} : decide ((0 : Int) < (i : Int)) = decide (0 < i) := by simp
theorem row_fault_eq {rows : List PV} {i : Nat} {p n : Str} {o : Int} {ws : List Int} {st : Store} (hi : rows[i]? = some (.tup [.str n, .int o, .tup (ints' ws)])) (hp : 0 < i → ∃ r, rows[i - 1]? = some (.tup (.str p :: r)))
    (hn : n.length ≤ 1000) (hw : ∀ w ∈ ws, w.natAbs < 2 ^ 200) (hl : ws.length ≤ 1000) :
    m_row_fault [.tup rows, .int (i : Int)] st = .ok (if rowKind i p n o ws = "" then .non else .str (rowKind i p n o ws)) st := by
  refine det fun Q k => sat_body ?_
  unfold f_row_fault
  simp only [List.map_cons, List.map_nil, List.length_cons, List.length_nil, Nat.reduceAdd, Nat.reduceSub, List.reduceReplicate, List.cons_append, List.nil_append]
  rw [ss_seq, ss_tg, sat_bin, sat_var rfl, sat_var rfl, o_ixT]
  refine ixW_of hi ⟨_, rfl, ?_⟩
  rw [ss_guard (b := !isNameP n) (tn_ok (t_ok fun Q k => by
    rw [sat_call, sat_cons, sat_var rfl, sat_nil, is_name_eq hn, sat_ok]; exact ⟨rfl, k⟩))]
  rw [ss_guard (b := decide (0 < i) && !strLt p n) (det fun Q k => by
    rw [sat_and, sat_test, sat_bin, sat_var rfl, sat_c, o_gtI, sat_truth, pos_i]
    by_cases h0 : 0 < i
    · obtain ⟨r, hr⟩ := hp h0
      rw [decide_eq_true h0, Bool.true_and] at k
      rw [decide_eq_true h0, if_pos rfl, sat_not, sat_test, sat_bin, sat_bin, sat_bin, sat_var rfl, sat_bin, sat_var rfl, sat_c, o_subI, o_ixT]
      have e : ((i : Int) - 1) = ((i - 1 : Nat) : Int) := by omega
      rw [e]
      refine ixW_of hr ?_
      rw [sat_c, o_ixT, ixW_0, sat_var rfl, o_ltS, sat_truth]
      exact k
    · rw [decide_eq_false h0, Bool.false_and] at k
      rw [decide_eq_false h0, if_neg (by simp)]
      exact k)]
  rw [ss_guard (b := !ownOk o) (t_ok fun Q k => by
    rw [sat_bin, sat_var rfl, sat_args, sat_cons, sat_c, sat_cons, sat_c, sat_cons, sat_c, sat_nil, sat_tup]
    refine ⟨by rw [sizeLine_eq]; decide, ?_⟩
    rw [inOwn]; exact k)]
  rw [ss_guard (b := !weightsOk o ws) (tn_ok (t_ok fun Q k => by
    rw [sat_call, sat_cons, sat_var rfl, sat_cons, sat_var rfl, sat_nil, are_weights_eq hw hl, sat_ok]; exact ⟨rfl, k⟩))]
  rw [ss_ret, sat_c]
  unfold rowKind at k
  cases e1 : isNameP n with
  | false => rw [e1] at k; exact k
  | true =>
    rw [e1] at k
    simp only [Bool.not_true, Bool.false_eq_true, if_false, reduceCtorEq] at k ⊢
    cases e2 : (decide (0 < i) && !strLt p n) with
    | true => rw [e2] at k; exact k
    | false =>
      rw [e2] at k
      simp only [Bool.false_eq_true, if_false] at k ⊢
      cases e3 : ownOk o with
      | false => rw [e3] at k; exact k
      | true =>
        rw [e3] at k
        simp only [Bool.not_true, Bool.false_eq_true, if_false, reduceCtorEq] at k ⊢
        cases e4 : weightsOk o ws with
        | false => rw [e4] at k; exact k
        | true => rw [e4] at k; exact k
theorem gcds_lt {ws : List Int} (h : ∀ w ∈ ws, Mod1 w) : gcds ws < 2 ^ 200 := by
  cases ws with
  | nil => exact Nat.pow_pos (by decide)
  | cons w r =>
    have hw := h w List.mem_cons_self
    exact Nat.lt_of_le_of_lt (Nat.le_of_dvd (by have := hw.1; omega) (gcds_dvd List.mem_cons_self)) hw.2
theorem wall_iff {o : Int} {ws : List Int} (ho : 0 ≤ o) : ws.all (wOne o) = true ↔ (∀ w ∈ ws, 1 ≤ w) ∧ (0 < o → ∀ w ∈ ws, w ≤ 1) := by
  rw [List.all_eq_true]
  unfold wOne
  simp only [Bool.and_eq_true, Bool.or_eq_true, decide_eq_true_eq]
  constructor
  · intro h
    refine ⟨fun w m => (h w m).1, fun h0 w m => ?_⟩
    rcases (h w m).2 with z | z <;> omega
  · rintro ⟨h1, h2⟩ w m
    refine ⟨h1 w m, ?_⟩
    by_cases h0 : o = 0
    · exact .inl h0
    · exact .inr (by have := h1 w m; have := h2 (by omega) w m; omega)
theorem law_row_fault_eq {rows : List PV} {i : Nat} {p n : Str} {o : Int} {ws : List Int} {st : Store} (hi : rows[i]? = some (.tup [.str n, .int o, .tup (ints' ws)])) (hp : 0 < i → ∃ r, rows[i - 1]? = some (.tup (.str p :: r)))
    (hn : n.length ≤ 1000) (hw : ∀ w ∈ ws, w.natAbs < 2 ^ 200) (hl : ws.length ≤ 1000) :
    m_law_row_fault [.tup rows, .int (i : Int)] st = .ok (.str (rowKind i p n o ws)) st := by
  refine det fun Q k => sat_body ?_
  unfold f_law_row_fault
  simp only [List.map_cons, List.map_nil, List.length_cons, List.length_nil, Nat.reduceAdd, Nat.reduceSub, List.reduceReplicate, List.cons_append, List.nil_append]
  rw [ss_seq, ss_tg, sat_bin, sat_var rfl, sat_var rfl, o_ixT]
  refine ixW_of hi ⟨_, rfl, ?_⟩
  rw [ss_guard (b := !isNameP n) (tn_ok (t_ok fun Q k => by
    rw [sat_call, sat_cons, sat_var rfl, sat_nil, law_is_name_eq hn, sat_ok]; exact ⟨rfl, k⟩))]
  rw [ss_guard (b := decide (0 < i) && !strLt p n) (det fun Q k => by
    rw [sat_and, sat_test, sat_bin, sat_var rfl, sat_c, o_gtI, sat_truth, pos_i]
    by_cases h0 : 0 < i
    · obtain ⟨r, hr⟩ := hp h0
      rw [decide_eq_true h0, Bool.true_and] at k
      rw [decide_eq_true h0, if_pos rfl, sat_test, sat_bin, sat_bin, sat_bin, sat_var rfl, sat_bin, sat_var rfl, sat_c, o_subI, o_ixT]
      have e : ((i : Int) - 1) = ((i - 1 : Nat) : Int) := by omega
      rw [e]
      refine ixW_of hr ?_
      rw [sat_c, o_ixT, ixW_0, sat_var rfl, o_geS, sat_truth]
      exact k
    · rw [decide_eq_false h0, Bool.false_and] at k
      rw [decide_eq_false h0, if_neg (by simp)]
      exact k)]
  rw [ss_guard (b := !ownOk o) (det fun Q k => by
    rw [sat_or, sat_test, sat_bin, sat_var rfl, sat_c, o_ltI, sat_truth]
    unfold ownOk at k
    by_cases h0 : o < 0
    · rw [decide_eq_true h0, if_pos rfl]
      rw [decide_eq_false (show ¬ 0 ≤ o by omega), Bool.false_and] at k
      exact k
    · rw [decide_eq_false h0, if_neg (by simp), sat_test, sat_bin, sat_var rfl, sat_c, o_gtI, sat_truth]
      rw [decide_eq_true (show 0 ≤ o by omega), Bool.true_and] at k
      have : decide ((2 : Int) < o) = !decide (o ≤ 2) := by
        rw [Bool.eq_iff_iff]; simp
      rw [this]; exact k)]
  unfold rowKind at k
  cases e1 : isNameP n with
  | false => rw [e1] at k; exact k
  | true =>
  rw [e1] at k
  simp only [Bool.not_true, Bool.false_eq_true, if_false, reduceCtorEq] at k ⊢
  cases e2 : (decide (0 < i) && !strLt p n) with
  | true => rw [e2] at k; exact k
  | false =>
  rw [e2] at k
  simp only [Bool.false_eq_true, if_false] at k ⊢
  cases e3 : ownOk o with
  | false => rw [e3] at k; exact k
  | true =>
  rw [e3] at k
  simp only [Bool.not_true, Bool.false_eq_true, if_false, reduceCtorEq] at k ⊢
  have ho : 0 ≤ o := by
    unfold ownOk at e3
    simp only [Bool.and_eq_true, decide_eq_true_eq] at e3
    exact e3.1
  rw [ss_guard (b := !(decide (1 ≤ ws.length) && decide (ws.length ≤ 64) && ws.all (wOne o))) (det fun Q k => by
    rw [sat_or, sat_not, sat_test, sat_chain, sat_c, sat_args, sat_cons, sat_var rfl, sat_nil, sat_one, o_lenT, o_leI]
    rw [List.length_map]
    by_cases h1 : 1 ≤ ws.length
    · have e1 : decide ((ws.length : Int) < 1) = false := by simp; omega
      rw [e1, Bool.not_false]
      show Sat (eC _ _ _) _
      rw [sat_c, o_leI, sat_truth]
      rw [decide_eq_true h1, Bool.true_and] at k
      by_cases h2 : ws.length ≤ 64
      · have e2 : decide ((64 : Int) < (ws.length : Int)) = false := by simp; omega
        rw [decide_eq_true h2, Bool.true_and] at k
        rw [e2, Bool.not_false, Bool.not_true, if_neg (by simp)]
        obtain ⟨w, r, rfl⟩ := List.exists_cons_of_ne_nil (show ws ≠ [] by intro z; subst z; simp at h1)
        rw [sat_or, sat_test, sat_bin, sat_args, sat_cons, sat_var rfl, sat_nil, sat_one, o_minT, sat_c, o_ltI, sat_truth]
        by_cases h3 : ∀ x ∈ w :: r, 1 ≤ x
        · rw [decide_eq_false (fun z => foldl_min.mp z (by simpa using h3)), if_neg (by simp), sat_and, sat_test, sat_bin, sat_var rfl, sat_c, o_gtI, sat_truth]
          by_cases h4 : 0 < o
          · rw [decide_eq_true h4, if_pos rfl, sat_test, sat_bin, sat_args, sat_cons, sat_var rfl, sat_nil, sat_one, o_maxT, sat_c, o_gtI, sat_truth]
            have : decide (1 < r.foldl max w) = !(w :: r).all (wOne o) := by
              rw [Bool.eq_iff_iff, Bool.not_eq_true', ← Bool.not_eq_true, wall_iff ho, decide_eq_true_eq, foldl_max]
              constructor
              · intro h z; exact h (by simpa using z.2 h4)
              · intro h z; exact h ⟨h3, fun _ => by simpa using z⟩
            rw [this]; exact k
          · rw [decide_eq_false h4, if_neg (by simp)]
            rw [show (w :: r).all (wOne o) = true from (wall_iff ho).mpr ⟨h3, fun z => absurd z h4⟩] at k
            exact k
        · rw [decide_eq_true (foldl_min.mpr (by simpa using h3)), if_pos rfl]
          have : (w :: r).all (wOne o) = false := by
            rw [← Bool.not_eq_true, wall_iff ho]
            exact fun z => h3 z.1
          rw [this] at k
          exact k
      · have e2 : decide ((64 : Int) < (ws.length : Int)) = true := by simp; omega
        rw [decide_eq_false h2, Bool.false_and] at k
        rw [e2, Bool.not_true, Bool.not_false, if_pos rfl]
        exact k
    · have e1 : decide ((ws.length : Int) < 1) = true := by simp; omega
      rw [e1, Bool.not_true]
      show Sat (pTruth (.bl false) st) _
      rw [sat_truth, Bool.not_false, if_pos rfl]
      rw [decide_eq_false h1, Bool.false_and, Bool.false_and] at k
      exact k)]
  cases e4 : (decide (1 ≤ ws.length) && decide (ws.length ≤ 64) && ws.all (wOne o)) with
  | false =>
    rw [Bool.not_false, if_pos rfl]
    unfold weightsOk at k
    rw [e4] at k
    exact k
  | true =>
  rw [Bool.not_true, if_neg (by simp)]
  have hm : ∀ w ∈ ws, Mod1 w := fun w m => by
    simp only [Bool.and_eq_true] at e4
    exact ⟨((wall_iff ho).mp e4.2).1 w m, hw w m⟩
  have ek : weightsOk o ws = decide (gcds ws = 1) := by unfold weightsOk; rw [e4, Bool.true_and]
  rw [ek] at k
  rw [ss_seq, ss_set, sat_c]
  refine seq_mid (fun e s => s = st ∧ ∃ w, e = ([some (.tup rows), some (.int (i : Int)), some (.int (gcds ws : Nat)), w, some (.str n), some (.int o), some (.tup (ints' ws))] : PEnv)) ?_ ?_
  · rw [ss_for, sat_iVal, sat_var rfl, o_itT]
    refine for_invN (k := 0) (fun j e s => s = st ∧ ∃ w, e = ([some (.tup rows), some (.int (i : Int)), some (.int (gcds (ws.take j) : Nat)), w, some (.str n), some (.int o), some (.tup (ints' ws))] : PEnv)) ⟨rfl, none, rfl⟩ ?_ ?_
    · rintro j v e s hv ⟨rfl, w, rfl⟩
      obtain ⟨z, hz, rfl⟩ := get_int hv
      rw [Nat.zero_add]
      refine ⟨_, rfl, ?_⟩
      have mz := hm z (List.mem_of_getElem? hz)
      obtain ⟨a, rfl⟩ := Int.eq_ofNat_of_zero_le (show 0 ≤ z by have := mz.1; omega)
      rw [ss_set, sat_call, sat_cons, sat_var rfl, sat_cons, sat_var rfl, sat_nil]
      refine ⟨rfl, (gcd_ok (a := a) (b := gcds (ws.take j)) (Mod1.bits (gcds_lt fun w m => hm w (List.mem_of_mem_take m)))).mono ?_⟩
      rintro _ _ ⟨rfl, rfl⟩
      refine ⟨rfl, some (.int a), ?_⟩
      rw [gcds_take hz, Int.natAbs_natCast, Nat.gcd_comm]
      rfl
    · rintro e s ⟨rfl, w, rfl⟩
      have e1 : ws.take (0 + (ints' ws).length) = ws := by simp
      rw [e1]
      exact ⟨rfl, w, rfl⟩
  rintro e s ⟨rfl, w, rfl⟩
  rw [ss_guard (b := !decide (gcds ws = 1)) (t_ok fun Q k => by
    rw [sat_bin, sat_var rfl, sat_c, o_neI]
    have : decide (((gcds ws : Nat) : Int) = 1) = decide (gcds ws = 1) := by rw [decide_eq_decide]; omega
    rw [this]; exact k)]
  rw [ss_ret, sat_c]
  cases e5 : decide (gcds ws = 1) with
  | false => rw [e5] at k; exact k
  | true => rw [e5] at k; exact k
end PL
/-! PL, part M7: nodes, judged by both. -/
namespace PL
open PySem PySem.Spec PyProof.Rows L2
def wsOf : PV → PV
  | .tup [_, _, w] => w
  | _ => .non
theorem SRow.parts {c : Nat} {v : PV} (h : SRow c v) : ∃ (o : Int) (ws : List Int), v = .tup [.str (nameOf v), .int o, .tup (ints' ws)] ∧ wsOf v = .tup (ints' ws) ∧ (nameOf v).length ≤ 60 ∧ ws.length ≤ c ∧ ∀ w ∈ ws, w.natAbs < 2 ^ 200 := by
  obtain ⟨n, o, ws, rfl, h⟩ := h
  exact ⟨o, ws, rfl, rfl, h⟩
theorem srow_ix0 {c : Nat} {x : PV} {st : Store} {Q : PV → Store → Prop} (h : SRow c x) : Sat (pIx x (.int 0) st) Q = Q (.str (nameOf x)) st := by
  obtain ⟨o, ws, e, _⟩ := h.parts
  generalize hn : nameOf x = n at *
  rw [e, o_ixT, ixW_0]
theorem srow_ix2 {c : Nat} {x : PV} {st : Store} {Q : PV → Store → Prop} (h : SRow c x) : Sat (pIx x (.int 2) st) Q = Q (wsOf x) st := by
  obtain ⟨o, ws, e, e2, _⟩ := h.parts
  generalize hn : nameOf x = n at *
  rw [e2, e, o_ixT, ixW_2]
/-- the first row of a name -/
def rowP (nm : Str) (r : PV) : Bool := decide (nameOf r = nm)
theorem row_of_eq {c : Nat} {rows : List PV} {tr : PV} {nm : Str} {st : Store} (hr : ∀ r ∈ rows, SRow c r) : m_row_of [.tup [.tup rows, tr], .str nm] st = .ok ((rows.find? (rowP nm)).getD .non) st := by
  refine det fun Q k => sat_body ?_
  unfold f_row_of
  simp only [List.map_cons, List.map_nil, List.length_cons, List.length_nil, Nat.reduceAdd, Nat.reduceSub, List.reduceReplicate, List.cons_append, List.nil_append]
  rw [ss_seq, ss_for, sat_iVal, sat_bin, sat_var rfl, sat_c, o_ixT, ixW_0, o_itT]
  refine for_invN (k := 0) (fun j e s => s = st ∧ (∃ w, e = ([some (.tup [.tup rows, tr]), some (.str nm), w] : PEnv)) ∧ (rows.take j).find? (rowP nm) = none) ⟨rfl, ⟨_, rfl⟩, by simp⟩ ?_ ?_
  · rintro j v e s hv ⟨rfl, ⟨w, rfl⟩, hf⟩
    rw [Nat.zero_add] at hf ⊢
    refine ⟨_, rfl, ?_⟩
    have sr := hr v (List.mem_of_getElem? hv)
    rw [ss_if, sat_test, sat_bin, sat_bin, sat_var rfl, sat_c, srow_ix0 sr, sat_var rfl, o_eqS, sat_truth]
    have e1 : rows = rows.take j ++ v :: rows.drop (j + 1) := by
      obtain ⟨hj, e⟩ := List.getElem?_eq_some_iff.mp hv
      subst e
      rw [← List.drop_eq_getElem_cons hj, List.take_append_drop]
    by_cases hn : nameOf v = nm
    · rw [decide_eq_true hn, if_pos rfl, ss_ret, sat_var rfl]
      have : rows.find? (rowP nm) = some v := by
        rw [e1, List.find?_append, hf]
        simp [rowP, hn]
      rw [this] at k
      exact k
    · rw [decide_eq_false hn, if_neg (by simp), ss_nil]
      refine ⟨rfl, ⟨_, rfl⟩, ?_⟩
      rw [List.take_add_one, hv, List.find?_append, hf]
      simp [rowP, hn]
  · rintro e s ⟨rfl, ⟨w, rfl⟩, hf⟩
    rw [Nat.zero_add, List.take_length] at hf
    rw [ss_ret, sat_c]
    rw [hf] at k
    exact k
theorem enums_some {cs : List PV} {i : Nat} {v : PV} (h : (enums cs)[i]? = some v) : ∃ x, cs[i]? = some x ∧ v = .tup [.int (i : Nat), x] := by
  unfold enums at h
  rw [List.getElem?_map, List.getElem?_zipIdx] at h
  cases e : cs[i]? with
  | none => rw [e] at h; cases h
  | some x =>
    rw [e] at h
    simp only [Option.map_some, Option.some.injEq, Nat.zero_add] at h
    exact ⟨x, rfl, h.symm⟩
theorem enums_len {cs : List PV} : (enums cs).length = cs.length := by simp [enums]
theorem o_enumT {xs : List PV} {st : Store} {Qx : Itms → Store → Prop} : Sat (pEnum (.tup xs) st) Qx = Qx ⟨enums xs, none⟩ st := sat_of rfl
theorem first_or {f : Nat → PV} : ∀ n : Nat, (∀ j, j < n → f j = .non) ∨ ∃ j, j < n ∧ f j ≠ .non ∧ ∀ i, i < j → f i = .non
  | 0 => .inl fun _ h => absurd h (Nat.not_lt_zero _)
  | n + 1 => by
    rcases first_or (f := f) n with h | ⟨j, h1, h2, h3⟩
    · by_cases hn : f n = .non
      · refine .inl fun j hj => ?_
        rcases Nat.lt_succ_iff_lt_or_eq.mp hj with z | z
        · exact h j z
        · subst z; exact hn
      · exact .inr ⟨n, Nat.lt_succ_self _, hn, h⟩
    · exact .inr ⟨j, by omega, h2, h3⟩
def NRes (r : PV) : Prop := r = .non ∨ ∃ (p : List Int) (k : Str), r = .tup [.str "tree", .tup (ints' p), .str k]
theorem isNn_ne {r : PV} (h : r ≠ .non) : isNn r = false := by
  cases r with
  | non => exact absurd rfl h
  | _ => rfl
theorem NRes.ite {c : Prop} [Decidable c] {a b : PV} (h1 : NRes a) (h2 : NRes b) : NRes (if c then a else b) := by
  split
  · exact h1
  · exact h2
theorem NRes.isNot {r : PV} {st : Store} {Q : PV → Store → Prop} (h : NRes r) : Sat (pIsNot r .non st) Q = Q (.bl (!isNn r)) st := by
  rcases h with rfl | ⟨p, k, rfl⟩
  · exact o_isNotN
  · exact o_isNotT
theorem filter_find {nm : Str} {rows : List PV} : (rows.filter (rowP nm)).head? = rows.find? (rowP nm) := List.head?_filter ..
theorem ints_snoc (p : List Int) (i : Int) : ints' p ++ [PV.int i] = ints' (p ++ [i]) := by simp
theorem strs_snoc (p : List Str) (i : Str) : p.map PV.str ++ [PV.str i] = (p ++ [i]).map PV.str := by simp
theorem node_both {rows : List PV} (hr : ∀ r ∈ rows, SRow 70 r) (hrl : rows.length ≤ 400) : ∀ (n d : Nat) (t : PV) (path : List Int) (us : List Str), TreeOk 600 d t → d < n → path.length + d ≤ 100 → us.length + d ≤ 100 →
    ∃ r : PV, NRes r ∧ (∀ tr st, fuelF 8 f_node_fault n [.tup [.tup rows, tr], t, .tup (ints' path), .tup (us.map .str)] st = .ok r st) ∧ (∀ st, fuelF 8 f_law_node_fault n [.tup rows, t, .tup (ints' path), .lst (us.map .str)] st = .ok r st)
  | 0, d, t, path, us, _, hn, _, _ => absurd hn (Nat.not_lt_zero _)
  | n + 1, d, t, path, us, h, hn, hp, hu => by
    have tree3 : ∀ k : Str, ([PV.str "tree", .tup (ints' path), .str k] : List PV).length ≤ sizeLine := fun k => by rw [sizeLine_eq]; show 3 ≤ _; decide
    cases h with
    | @leaf _ z hz =>
      refine ⟨if isNameP z = true then .non else .tup [.str "tree", .tup (ints' path), .str "outcome"], ?_, fun tr st => det fun Q k => sat_body ?_, fun st => det fun Q k => sat_body ?_⟩
      · split
        · exact .inl rfl
        · exact .inr ⟨_, _, rfl⟩
      · unfold f_node_fault
        simp only [List.map_cons, List.map_nil, List.length_cons, List.length_nil, Nat.reduceAdd, Nat.reduceSub, List.reduceReplicate, List.cons_append, List.nil_append]
        rw [ss_seq, ss_if, sat_test, sat_args, sat_cons, sat_var rfl, sat_cons, sat_c, sat_nil, isi_s, sat_truth, if_pos rfl, ss_seq, ss_if, sat_test, sat_call, sat_cons, sat_var rfl, sat_nil, is_name_eq (by omega), sat_ok, sat_truth]
        refine ⟨rfl, ?_⟩
        cases e : isNameP z with
        | true => rw [e] at k; rw [if_pos rfl, ss_ret, sat_c]; exact k
        | false =>
          rw [e] at k
          rw [if_neg (by simp), ss_nil, ss_ret, sat_args, sat_cons, sat_c, sat_cons, sat_var rfl, sat_cons, sat_c, sat_nil, sat_tup]
          exact ⟨tree3 _, k⟩
      · unfold f_law_node_fault
        simp only [List.map_cons, List.map_nil, List.length_cons, List.length_nil, Nat.reduceAdd, Nat.reduceSub, List.reduceReplicate, List.cons_append, List.nil_append]
        rw [ss_seq, ss_if, sat_test, sat_args, sat_cons, sat_var rfl, sat_cons, sat_c, sat_nil, isi_s, sat_truth, if_pos rfl, ss_seq, ss_if, sat_test, sat_call, sat_cons, sat_var rfl, sat_nil, law_is_name_eq (by omega), sat_ok, sat_truth]
        refine ⟨rfl, ?_⟩
        cases e : isNameP z with
        | true => rw [e] at k; rw [if_pos rfl, ss_ret, sat_c]; exact k
        | false =>
          rw [e] at k
          rw [if_neg (by simp), ss_nil, ss_ret, sat_args, sat_cons, sat_c, sat_cons, sat_var rfl, sat_cons, sat_c, sat_nil, sat_tup]
          exact ⟨tree3 _, k⟩
    | @node d nm cs hnm hcs hk =>
      -- the children
      have hch : ∀ j : Nat, ∃ r : PV, ∀ x, cs[j]? = some x → NRes r ∧ (∀ tr st, fuelF 8 f_node_fault n [.tup [.tup rows, tr], x, .tup (ints' (path ++ [(j : Int)])), .tup ((us ++ [nm]).map .str)] st = .ok r st) ∧
          (∀ st, fuelF 8 f_law_node_fault n [.tup rows, x, .tup (ints' (path ++ [(j : Int)])), .lst ((us ++ [nm]).map .str)] st = .ok r st) := fun j => by
        cases e : cs[j]? with
        | none => exact ⟨.non, fun x z => nomatch z⟩
        | some x =>
          obtain ⟨r, h⟩ := node_both hr hrl n d x (path ++ [(j : Int)]) (us ++ [nm]) (hk x (List.mem_of_getElem? e)) (by omega) (by simp; omega) (by simp; omega)
          exact ⟨r, fun y z => by cases z; exact h⟩
      obtain ⟨f, hf⟩ := Classical.skolem.mp hch
      have hlen : ∀ j x, cs[j]? = some x → j < cs.length := fun j x e => (List.getElem?_eq_some_iff.mp e).1
      have hres : ∃ r : PV, NRes r ∧ ((∀ j, j < cs.length → f j = .non) → r = .non) ∧ (∀ j, j < cs.length → f j ≠ .non → (∀ i, i < j → f i = .non) → r = f j) := by
        rcases first_or (f := f) cs.length with h | ⟨j, h1, h2, h3⟩
        · exact ⟨.non, .inl rfl, fun _ => rfl, fun j hj z => absurd (h j hj) z⟩
        · refine ⟨f j, (hf j cs[j] (List.getElem?_eq_getElem h1)).1, fun z => z j h1, fun i hi z1 z2 => ?_⟩
          rcases Nat.lt_trichotomy i j with q | q | q
          · exact absurd (h3 i q) z1
          · rw [q]
          · exact absurd (z2 j q) h2
      obtain ⟨rr, hrr, hr1, hr2⟩ := hres
      refine ⟨match rows.find? (rowP nm) with
        | none => .tup [.str "tree", .tup (ints' path), .str "undeclared"]
        | some row => if (match wsOf row with | .tup ws => ws.length | _ => 0) ≠ cs.length then .tup [.str "tree", .tup (ints' path), .str "count"] else if nm ∈ us then .tup [.str "tree", .tup (ints' path), .str "repeated"] else rr, ?_, fun tr st => det fun Q k => sat_body ?_, fun st => det fun Q k => sat_body ?_⟩
      · cases rows.find? (rowP nm) with
        | none => exact .inr ⟨_, _, rfl⟩
        | some row => exact .ite (.inr ⟨_, _, rfl⟩) (.ite (.inr ⟨_, _, rfl⟩) hrr)
      · unfold f_node_fault
        simp only [List.map_cons, List.map_nil, List.length_cons, List.length_nil, Nat.reduceAdd, Nat.reduceSub, List.reduceReplicate, List.cons_append, List.nil_append]
        rw [ss_seq, ss_if, sat_test, sat_args, sat_cons, sat_var rfl, sat_cons, sat_c, sat_nil, isi_t, sat_truth, if_neg (by simp), ss_nil]
        rw [ss_seq, ss_set, sat_call, sat_cons, sat_var rfl, sat_cons, sat_bin, sat_var rfl, sat_c, o_ixT, ixW_0, sat_nil, row_of_eq hr, sat_ok]
        refine ⟨rfl, ?_⟩
        cases e : rows.find? (rowP nm) with
        | none =>
          rw [e] at k
          rw [Option.getD_none, ss_seq, ss_if, sat_test, sat_bin, sat_var rfl, sat_c, o_isN, sat_truth, if_pos rfl, ss_ret, sat_args, sat_cons, sat_c, sat_cons, sat_var rfl, sat_cons, sat_c, sat_nil, sat_tup]
          exact ⟨tree3 _, k⟩
        | some row =>
          rw [e] at k
          have sr := hr row (List.mem_of_find?_eq_some e)
          obtain ⟨o, ws, er, ew, _⟩ := sr.parts
          simp only [ew, List.length_map] at k
          have hni : ∀ (Q : PV → Store → Prop), Sat (pIs row .non st) Q = Q (.bl false) st := fun Q => by rw [er]; exact o_isT
          rw [Option.getD_some, ss_seq, ss_if, sat_test, sat_bin, sat_var rfl, sat_c, hni, sat_truth, if_neg (by simp), ss_nil]
          rw [ss_seq, ss_if, sat_test, sat_bin, sat_args, sat_cons, sat_bin, sat_var rfl, sat_c, o_ixT, ixW_1, sat_nil, sat_one, o_lenT, sat_args, sat_cons, sat_bin, sat_var rfl, sat_c, srow_ix2 sr, ew, sat_nil, sat_one, o_lenT, o_neI, sat_truth, List.length_map]
          by_cases hl : ws.length = cs.length
          · rw [decide_eq_true (show (cs.length : Int) = (ws.length : Int) by omega), Bool.not_true, if_neg (by simp), ss_nil]
            rw [if_neg (by simpa using hl)] at k
            rw [ss_seq, ss_if, sat_test, sat_bin, sat_bin, sat_var rfl, sat_c, o_ixT, ixW_0, sat_var rfl, o_inUsed (b := true) (us := us) rfl, sat_truth]
            by_cases hm : nm ∈ us
            · rw [if_pos hm] at k
              rw [decide_eq_true hm, if_pos rfl, ss_ret, sat_args, sat_cons, sat_c, sat_cons, sat_var rfl, sat_cons, sat_c, sat_nil, sat_tup]
              exact ⟨tree3 _, k⟩
            · rw [if_neg hm] at k
              rw [decide_eq_false hm, if_neg (by simp), ss_nil]
              rw [ss_seq, ss_for]
              unfold iEnumM
              rw [sat_bind, sat_bin, sat_var rfl, sat_c, o_ixT, ixW_1, o_enumT]
              refine for_invN (k := 0) (fun j e s => s = st ∧ (∃ a b c, e = ([some (.tup [.tup rows, tr]), some (.tup [.str nm, .tup cs]), some (.tup (ints' path)), some (.tup (us.map .str)), some row, a, b, c] : PEnv)) ∧ ∀ i, i < j → f i = .non) ⟨rfl, ⟨_, _, _, rfl⟩, fun _ z => absurd z (Nat.not_lt_zero _)⟩ ?_ ?_
              · rintro j v e s hv ⟨rfl, ⟨a, b, c, rfl⟩, hb⟩
                obtain ⟨x, hx, rfl⟩ := enums_some hv
                rw [Nat.zero_add] at hb ⊢
                obtain ⟨n1, n2, n3⟩ := hf j x hx
                refine ⟨_, rfl, ?_⟩
                rw [ss_seq, ss_set, sat_call, sat_cons, sat_var rfl, sat_cons, sat_var rfl, sat_cons, sat_bin, sat_var rfl, sat_args, sat_cons, sat_var rfl, sat_nil, sat_tup]
                refine ⟨by rw [sizeLine_eq]; show 1 ≤ _; decide, ?_⟩
                rw [o_addT]
                refine ⟨by rw [sizeLine_eq]; simp; omega, ?_⟩
                rw [sat_cons, sat_bin, sat_var rfl, sat_args, sat_cons, sat_bin, sat_var rfl, sat_c, o_ixT, ixW_0, sat_nil, sat_tup]
                refine ⟨by rw [sizeLine_eq]; show 1 ≤ _; decide, ?_⟩
                rw [o_addT]
                refine ⟨by rw [sizeLine_eq]; simp; omega, ?_⟩
                rw [sat_nil, ints_snoc, strs_snoc]
                refine ⟨rfl, ?_⟩
                show Sat (fuelF 8 f_node_fault n [.tup [.tup rows, tr], x, .tup (ints' (path ++ [(j : Int)])), .tup ((us ++ [nm]).map .str)] s) _
                rw [n2, sat_ok]
                rw [ss_if, sat_test, sat_bin, sat_var rfl, sat_c, n1.isNot, sat_truth]
                by_cases hz : f j = .non
                · rw [show isNn (f j) = true by rw [hz]; rfl, Bool.not_true, if_neg (by simp), ss_nil]
                  refine ⟨rfl, ⟨_, _, _, rfl⟩, fun i hi => ?_⟩
                  rcases Nat.lt_succ_iff_lt_or_eq.mp hi with q | q
                  · exact hb i q
                  · rw [q]; exact hz
                · rw [isNn_ne hz, Bool.not_false, if_pos rfl, ss_ret, sat_var rfl]
                  rw [hr2 j (hlen j x hx) hz hb] at k
                  exact k
              · rintro e s ⟨rfl, ⟨a, b, c, rfl⟩, hb⟩
                rw [Nat.zero_add, enums_len] at hb
                rw [ss_ret, sat_c]
                rw [hr1 hb] at k
                exact k
          · rw [decide_eq_false (show ¬ (cs.length : Int) = (ws.length : Int) by omega), Bool.not_false, if_pos rfl]
            rw [if_pos (by simpa using hl)] at k
            rw [ss_ret, sat_args, sat_cons, sat_c, sat_cons, sat_var rfl, sat_cons, sat_c, sat_nil, sat_tup]
            exact ⟨tree3 _, k⟩
      · unfold f_law_node_fault
        simp only [List.map_cons, List.map_nil, List.length_cons, List.length_nil, Nat.reduceAdd, Nat.reduceSub, List.reduceReplicate, List.cons_append, List.nil_append]
        rw [ss_seq, ss_if, sat_test, sat_args, sat_cons, sat_var rfl, sat_cons, sat_c, sat_nil, isi_t, sat_truth, if_neg (by simp), ss_nil]
        rw [ss_seq, ss_set, sat_comp, sat_iVal, sat_var rfl, o_itT]
        refine comp_inv (fun j acc t => t = st ∧ acc = ((rows.take j).filter (rowP nm)).map wsOf) (k := 0) ⟨rfl, rfl⟩ ?_ ?_
        · rintro j v t acc hv ⟨rfl, rfl⟩
          rw [Nat.zero_add]
          have sr := hr v (List.mem_of_getElem? hv)
          refine ⟨_, rfl, ?_⟩
          rw [sat_test, sat_bin, sat_bin, sat_var rfl, sat_c, srow_ix0 sr, sat_bin, sat_var rfl, sat_c, o_ixT, ixW_0, o_eqS, sat_truth]
          by_cases hq : nameOf v = nm
          · rw [decide_eq_true hq, if_pos rfl, sat_bin, sat_var rfl, sat_c, srow_ix2 sr]
            refine ⟨?_, rfl, ?_⟩
            · have h1 := List.length_filter_le (rowP nm) (rows.take j)
              have h2 : (rows.take j).length ≤ rows.length := by simp; omega
              rw [sizeLine_eq, List.length_map]
              omega
            · rw [List.take_add_one, hv, List.filter_append]
              simp [rowP, hq]
          · rw [decide_eq_false hq, if_neg (by simp)]
            refine ⟨rfl, ?_⟩
            rw [List.take_add_one, hv, List.filter_append]
            simp [rowP, hq]
        · rintro acc t ⟨rfl, rfl⟩
          rw [Nat.zero_add, List.take_length, o_finF]
          have hh := filter_find (nm := nm) (rows := rows)
          cases e : rows.filter (rowP nm) with
          | nil =>
            rw [e] at hh
            rw [← hh] at k
            rw [ss_seq, ss_if, sat_test, sat_bin, sat_args, sat_cons, sat_var rfl, sat_nil, sat_one, o_lenL, sat_c, o_eqI, sat_truth]
            rw [decide_eq_true (by simp), if_pos rfl, ss_ret, sat_args, sat_cons, sat_c, sat_cons, sat_var rfl, sat_cons, sat_c, sat_nil, sat_tup]
            exact ⟨tree3 _, k⟩
          | cons row more =>
            rw [e] at hh
            rw [← hh] at k
            simp only [List.head?_cons] at k
            have sr := hr row (List.mem_filter.mp (show row ∈ rows.filter (rowP nm) by rw [e]; exact List.mem_cons_self)).1
            obtain ⟨o, ws, er, ew, _⟩ := sr.parts
            simp only [ew, List.length_map] at k
            rw [List.map_cons, ew]
            rw [ss_seq, ss_if, sat_test, sat_bin, sat_args, sat_cons, sat_var rfl, sat_nil, sat_one, o_lenL, sat_c, o_eqI, sat_truth]
            rw [decide_eq_false (by simp; omega), if_neg (by simp), ss_nil]
            rw [ss_seq, ss_if, sat_test, sat_bin, sat_args, sat_cons, sat_bin, sat_var rfl, sat_c, o_ixL, ixW_0, sat_nil, sat_one, o_lenT, sat_args, sat_cons, sat_bin, sat_var rfl, sat_c, o_ixT, ixW_1, sat_nil, sat_one, o_lenT, o_neI, sat_truth, List.length_map]
            by_cases hl : ws.length = cs.length
            · rw [decide_eq_true (show (ws.length : Int) = (cs.length : Int) by omega), Bool.not_true, if_neg (by simp), ss_nil]
              rw [if_neg (by simpa using hl)] at k
              rw [ss_seq, ss_if, sat_test, sat_bin, sat_bin, sat_var rfl, sat_c, o_ixT, ixW_0, sat_var rfl, o_inUsed (b := false) (us := us) rfl, sat_truth]
              by_cases hm : nm ∈ us
              · rw [if_pos hm] at k
                rw [decide_eq_true hm, if_pos rfl, ss_ret, sat_args, sat_cons, sat_c, sat_cons, sat_var rfl, sat_cons, sat_c, sat_nil, sat_tup]
                exact ⟨tree3 _, k⟩
              · rw [if_neg hm] at k
                rw [decide_eq_false hm, if_neg (by simp), ss_nil]
                rw [ss_seq, ss_for, sat_iRange1, sat_args, sat_cons, sat_bin, sat_var rfl, sat_c, o_ixT, ixW_1, sat_nil, sat_one, o_lenT, o_rng]
                refine ⟨⟨by omega, by omega⟩, ?_⟩
                refine for_invN (k := 0) (fun j e s => s = t ∧ (∃ a b c, e = ([some (.tup rows), some (.tup [.str nm, .tup cs]), some (.tup (ints' path)), some (.lst (us.map .str)), some (.lst (.tup (ints' ws) :: more.map wsOf)), a, b, c] : PEnv)) ∧ ∀ i, i < j → f i = .non) ⟨rfl, ⟨_, _, _, rfl⟩, fun _ z => absurd z (Nat.not_lt_zero _)⟩ ?_ ?_
                · rintro j v e s hv ⟨rfl, ⟨a, b, c, rfl⟩, hb⟩
                  obtain ⟨hj, rfl⟩ := rngs_get hv
                  have hj : j < cs.length := by omega
                  have hx := List.getElem?_eq_getElem hj
                  rw [Nat.zero_add] at hb ⊢
                  rw [Int.zero_add]
                  obtain ⟨n1, n2, n3⟩ := hf j _ hx
                  refine ⟨_, rfl, ?_⟩
                  rw [ss_seq, ss_set, sat_call, sat_cons, sat_var rfl, sat_cons, sat_bin, sat_bin, sat_var rfl, sat_c, o_ixT, ixW_1, sat_var rfl, o_ixT]
                  refine ixW_of hx ?_
                  rw [sat_cons, sat_bin, sat_var rfl, sat_args, sat_cons, sat_var rfl, sat_nil, sat_tup]
                  refine ⟨by rw [sizeLine_eq]; show 1 ≤ _; decide, ?_⟩
                  rw [o_addT]
                  refine ⟨by rw [sizeLine_eq]; simp; omega, ?_⟩
                  rw [sat_cons, sat_bin, sat_var rfl, sat_args, sat_cons, sat_bin, sat_var rfl, sat_c, o_ixT, ixW_0, sat_nil, sat_lst]
                  refine ⟨by rw [sizeLine_eq]; show 1 ≤ _; decide, ?_⟩
                  rw [o_addL]
                  refine ⟨by rw [sizeLine_eq]; simp; omega, ?_⟩
                  rw [sat_nil, ints_snoc, strs_snoc]
                  refine ⟨rfl, ?_⟩
                  show Sat (fuelF 8 f_law_node_fault n [.tup rows, cs[j], .tup (ints' (path ++ [(j : Int)])), .lst ((us ++ [nm]).map .str)] s) _
                  rw [n3, sat_ok]
                  rw [ss_if, sat_test, sat_bin, sat_var rfl, sat_c, n1.isNot, sat_truth]
                  by_cases hz : f j = .non
                  · rw [show isNn (f j) = true by rw [hz]; rfl, Bool.not_true, if_neg (by simp), ss_nil]
                    refine ⟨rfl, ⟨_, _, _, rfl⟩, fun i hi => ?_⟩
                    rcases Nat.lt_succ_iff_lt_or_eq.mp hi with q | q
                    · exact hb i q
                    · rw [q]; exact hz
                  · rw [isNn_ne hz, Bool.not_false, if_pos rfl, ss_ret, sat_var rfl]
                    rw [hr2 j hj hz hb] at k
                    exact k
                · rintro e s ⟨rfl, ⟨a, b, c, rfl⟩, hb⟩
                  rw [rngs_len, Nat.zero_add] at hb
                  rw [ss_ret, sat_c]
                  rw [hr1 fun j hj => hb j (by omega)] at k
                  exact k
            · rw [decide_eq_false (show ¬ (ws.length : Int) = (cs.length : Int) by omega), Bool.not_false, if_pos rfl]
              rw [if_pos (by simpa using hl)] at k
              rw [ss_ret, sat_args, sat_cons, sat_c, sat_cons, sat_var rfl, sat_cons, sat_c, sat_nil, sat_tup]
              exact ⟨tree3 _, k⟩
end PL
/-! PL, part M8: a game, judged by both. -/
namespace PL
open PySem PySem.Spec PyProof.Rows L2
/-- a fault, or none -/
def DRes (r : PV) : Prop := r = .non ∨ ∃ (a : Str) (b : PV) (k : Str), r = .tup [.str a, b, .str k] ∧ ((∃ i : Int, b = .int i) ∨ ∃ p : List Int, b = .tup (ints' p))
theorem DRes.isNot {r : PV} {st : Store} {Q : PV → Store → Prop} (h : DRes r) : Sat (pIsNot r .non st) Q = Q (.bl (!isNn r)) st := by
  rcases h with rfl | ⟨p, b, k, rfl, _⟩
  · exact o_isNotN
  · exact o_isNotT
theorem DRes.is {r : PV} {st : Store} {Q : PV → Store → Prop} (h : DRes r) : Sat (pIs r .non st) Q = Q (.bl (isNn r)) st := by
  rcases h with rfl | ⟨p, b, k, rfl, _⟩
  · exact o_isN
  · exact o_isT
theorem row_both {rows : List PV} (hr : ∀ r ∈ rows, SRow 70 r) (i : Nat) (hi : i < rows.length) : ∃ kd : Str, (∀ st, m_row_fault [.tup rows, .int (i : Int)] st = .ok (if kd = "" then .non else .str kd) st) ∧ ∀ st, m_law_row_fault [.tup rows, .int (i : Int)] st = .ok (.str kd) st := by
  obtain ⟨o, ws, e, _, h1, h2, h3⟩ := (hr rows[i] (List.getElem_mem hi)).parts
  have e1 : rows[i]? = some (.tup [.str (nameOf rows[i]), .int o, .tup (ints' ws)]) := by rw [List.getElem?_eq_getElem hi, ← e]
  by_cases h0 : 0 < i
  · have hi' : i - 1 < rows.length := by omega
    obtain ⟨o', ws', e', _⟩ := (hr rows[i - 1] (List.getElem_mem hi')).parts
    have hp : 0 < i → ∃ r, rows[i - 1]? = some (.tup (.str (nameOf rows[i - 1]) :: r)) := fun _ => ⟨_, by rw [List.getElem?_eq_getElem hi', ← e']⟩
    exact ⟨_, fun st => row_fault_eq e1 hp (by omega) h3 (by omega), fun st => law_row_fault_eq e1 hp (by omega) h3 (by omega)⟩
  · exact ⟨_, fun st => row_fault_eq (p := "") e1 (fun z => absurd z h0) (by omega) h3 (by omega), fun st => law_row_fault_eq (p := "") e1 (fun z => absurd z h0) (by omega) h3 (by omega)⟩
theorem due_both {rows : List PV} {tree : PV} (hr : ∀ r ∈ rows, SRow 70 r) (hrl : rows.length ≤ 400) (ht : TreeOk 600 20 tree) :
    ∃ r : PV, DRes r ∧ (∀ st, m_first_fault [.tup [.tup rows, tree]] st = .ok r st) ∧ ∀ st, m_law_due [.tup rows, tree] st = .ok r st := by
  obtain ⟨rt, t1, t2, t3⟩ := node_both hr hrl 60 20 tree [] [] ht (by decide) (by decide) (by decide)
  have hch : ∀ j : Nat, ∃ kd : Str, j < rows.length → (∀ st, m_row_fault [.tup rows, .int (j : Int)] st = .ok (if kd = "" then .non else .str kd) st) ∧ ∀ st, m_law_row_fault [.tup rows, .int (j : Int)] st = .ok (.str kd) st := fun j => by
    by_cases hj : j < rows.length
    · obtain ⟨kd, h⟩ := row_both hr j hj
      exact ⟨kd, fun _ => h⟩
    · exact ⟨"", fun z => absurd z hj⟩
  obtain ⟨g, hg⟩ := Classical.skolem.mp hch
  have hres : ∃ r : PV, DRes r ∧ ((∀ j, j < rows.length → g j = "") → r = rt) ∧ (∀ j, j < rows.length → g j ≠ "" → (∀ i, i < j → g i = "") → r = .tup [.str "sets", .int (j : Int), .str (g j)]) := by
    rcases first_or (f := fun j => if g j = "" then PV.non else .int 0) rows.length with h | ⟨j, h1, h2, h3⟩
    · have h' : ∀ j, j < rows.length → g j = "" := fun j hj => by
        have := h j hj
        by_cases q : g j = ""
        · exact q
        · rw [if_neg q] at this; cases this
      refine ⟨rt, ?_, fun _ => rfl, fun j hj z => absurd (h' j hj) z⟩
      rcases t1 with z | ⟨p, k, z⟩
      · exact .inl z
      · exact .inr ⟨_, _, _, z, .inr ⟨p, rfl⟩⟩
    · have h2' : g j ≠ "" := fun q => h2 (by simp [q])
      have h3' : ∀ i, i < j → g i = "" := fun i hi => by
        have := h3 i hi
        by_cases q : g i = ""
        · exact q
        · simp [q] at this
      refine ⟨.tup [.str "sets", .int (j : Int), .str (g j)], .inr ⟨_, _, _, rfl, .inl ⟨_, rfl⟩⟩, fun z => absurd (z j h1) h2', fun i hi z1 z2 => ?_⟩
      have : i = j := by
        rcases Nat.lt_trichotomy i j with q | q | q
        · exact absurd (h3' i q) z1
        · exact q
        · exact absurd (z2 j q) h2'
      subst this
      rfl
  obtain ⟨r, hd, hr1, hr2⟩ := hres
  refine ⟨r, hd, fun st => det fun Q k => sat_body ?_, fun st => det fun Q k => sat_body ?_⟩
  · unfold f_first_fault
    generalize hgm : PV.tup [PV.tup rows, tree] = gm
    simp only [List.map_cons, List.map_nil, List.length_cons, List.length_nil, Nat.reduceAdd, Nat.reduceSub, List.reduceReplicate, List.cons_append, List.nil_append]
    rw [ss_seq, ss_tg, sat_var rfl]
    refine ⟨[some gm, none, some (.tup rows), some tree, none], by rw [← hgm]; rfl, ?_⟩
    rw [ss_seq, ss_for, sat_iRange1, sat_args, sat_cons, sat_var rfl, sat_nil, sat_one, o_lenT, o_rng]
    refine ⟨⟨by omega, by omega⟩, ?_⟩
    refine for_invN (k := 0) (fun j e s => s = st ∧ (∃ a b, e = ([some gm, a, some (.tup rows), some tree, b] : PEnv)) ∧ ∀ i, i < j → g i = "") ⟨rfl, ⟨_, _, rfl⟩, fun _ z => absurd z (Nat.not_lt_zero _)⟩ ?_ ?_
    · rintro j v e s hv ⟨rfl, ⟨a, b, rfl⟩, hb⟩
      obtain ⟨hj, rfl⟩ := rngs_get hv
      have hj : j < rows.length := by omega
      rw [Nat.zero_add] at hb ⊢
      rw [Int.zero_add]
      refine ⟨_, rfl, ?_⟩
      rw [ss_seq, ss_set, sat_call, sat_cons, sat_var rfl, sat_cons, sat_var rfl, sat_nil, (hg j hj).1, sat_ok]
      refine ⟨rfl, ?_⟩
      rw [ss_if, sat_test, sat_bin, sat_var rfl, sat_c]
      by_cases hz : g j = ""
      · rw [if_pos hz, o_isNotN, sat_truth, if_neg (by simp), ss_nil]
        refine ⟨rfl, ⟨_, _, rfl⟩, fun i hi => ?_⟩
        rcases Nat.lt_succ_iff_lt_or_eq.mp hi with q | q
        · exact hb i q
        · rw [q]; exact hz
      · rw [if_neg hz, o_isNotS, sat_truth, if_pos rfl, ss_ret, sat_args, sat_cons, sat_c, sat_cons, sat_var rfl, sat_cons, sat_var rfl, sat_nil, sat_tup]
        refine ⟨by rw [sizeLine_eq]; show 3 ≤ _; decide, ?_⟩
        rw [hr2 j hj hz hb] at k
        exact k
    · rintro e s ⟨rfl, ⟨a, b, rfl⟩, hb⟩
      rw [rngs_len, Nat.zero_add] at hb
      rw [hr1 fun j hj => hb j (by omega)] at k
      rw [ss_ret, sat_call, sat_cons, sat_var rfl, sat_cons, sat_var rfl, sat_cons, sat_args, sat_nil, sat_tup]
      refine ⟨Nat.zero_le _, ?_⟩
      rw [sat_cons, sat_args, sat_nil, sat_tup]
      refine ⟨Nat.zero_le _, ?_⟩
      rw [sat_nil]
      refine ⟨rfl, ?_⟩
      rw [← hgm]
      show Sat (fuelF 8 f_node_fault 60 [.tup [.tup rows, tree], tree, .tup (ints' []), .tup (([] : List Str).map .str)] s) _
      rw [t2, sat_ok]
      exact k
  · unfold f_law_due
    simp only [List.map_cons, List.map_nil, List.length_cons, List.length_nil, Nat.reduceAdd, Nat.reduceSub, List.reduceReplicate, List.cons_append, List.nil_append]
    rw [ss_seq, ss_for, sat_iRange1, sat_args, sat_cons, sat_var rfl, sat_nil, sat_one, o_lenT, o_rng]
    refine ⟨⟨by omega, by omega⟩, ?_⟩
    refine for_invN (k := 0) (fun j e s => s = st ∧ (∃ a b, e = ([some (.tup rows), some tree, a, b] : PEnv)) ∧ ∀ i, i < j → g i = "") ⟨rfl, ⟨_, _, rfl⟩, fun _ z => absurd z (Nat.not_lt_zero _)⟩ ?_ ?_
    · rintro j v e s hv ⟨rfl, ⟨a, b, rfl⟩, hb⟩
      obtain ⟨hj, rfl⟩ := rngs_get hv
      have hj : j < rows.length := by omega
      rw [Nat.zero_add] at hb ⊢
      rw [Int.zero_add]
      refine ⟨_, rfl, ?_⟩
      rw [ss_seq, ss_set, sat_call, sat_cons, sat_var rfl, sat_cons, sat_var rfl, sat_nil, (hg j hj).2, sat_ok]
      refine ⟨rfl, ?_⟩
      rw [ss_if, sat_test, sat_bin, sat_var rfl, sat_c, o_neS, sat_truth]
      by_cases hz : g j = ""
      · rw [decide_eq_true hz, Bool.not_true, if_neg (by simp), ss_nil]
        refine ⟨rfl, ⟨_, _, rfl⟩, fun i hi => ?_⟩
        rcases Nat.lt_succ_iff_lt_or_eq.mp hi with q | q
        · exact hb i q
        · rw [q]; exact hz
      · rw [decide_eq_false hz, Bool.not_false, if_pos rfl, ss_ret, sat_args, sat_cons, sat_c, sat_cons, sat_var rfl, sat_cons, sat_var rfl, sat_nil, sat_tup]
        refine ⟨by rw [sizeLine_eq]; show 3 ≤ _; decide, ?_⟩
        rw [hr2 j hj hz hb] at k
        exact k
    · rintro e s ⟨rfl, ⟨a, b, rfl⟩, hb⟩
      rw [rngs_len, Nat.zero_add] at hb
      rw [hr1 fun j hj => hb j (by omega)] at k
      rw [ss_ret, sat_call, sat_cons, sat_var rfl, sat_cons, sat_var rfl, sat_cons, sat_args, sat_nil, sat_tup]
      refine ⟨Nat.zero_le _, ?_⟩
      rw [sat_cons, sat_args, sat_nil, sat_lst]
      refine ⟨Nat.zero_le _, ?_⟩
      rw [sat_nil]
      refine ⟨rfl, ?_⟩
      show Sat (fuelF 8 f_law_node_fault 60 [.tup rows, tree, .tup (ints' []), .lst (([] : List Str).map .str)] s) _
      rw [t3, sat_ok]
      exact k
end PL
/-! PL, part M9: the law. -/
namespace PL
open PySem PySem.Spec PyProof.Rows L2
section
variable {f g : SM} {env env' : PEnv} {st st' : Store}
theorem seq_nx (h : f env st = .nx env' st') : sSeq f g env st = g env' st' := by unfold sSeq; rw [h]
theorem set_ok {i : Nat} {fe : EM} {v : PV} (h : fe env st = .ok v st') : sSet i fe env st = .nx (env.set i (some v)) st' := by unfold sSet; rw [h]; rfl
theorem set_err {i : Nat} {fe : EM} {n fs} (h : fe env st = .err n fs st') : sSet i fe env st = .err env n fs st' := by unfold sSet; rw [h]; rfl
theorem if_ok {c : TM} {b : Bool} (h : c env st = .ok b st') : sIf c f g env st = if b = true then f env st' else g env st' := by unfold sIf; rw [h]; rfl
theorem raise_ok {x fl : Str} {fe : EM} {v : PV} (h : fe env st = .ok v st') : sRaise x fl fe env st = .err env x (some [(fl, v)]) st' := by unfold sRaise; rw [h]; rfl
theorem nx_of {r : SR} (h : SatS r (fun e s => e = env' ∧ s = st') fun _ _ => False) : r = .nx env' st' := by
  rcases h with ⟨e, s, h1, rfl, rfl⟩ | ⟨v, s, h1, h2⟩
  · exact h1
  · exact False.elim h2
theorem callX_eq {n : Nat} {m : List PV → Store → Res PV} {fs : AM} {vs : List PV} (h : fs env st = .ok vs st') (hl : vs.length = n) : eCallX n m fs env st = m vs st' := by
  unfold eCallX eArgs
  rw [h]
  show guardN n m vs st' = _
  unfold guardN
  rw [if_pos hl]
variable {N : PEnv → Store → Prop} {R : PV → Store → Prop}
theorem ss_try_nx {i : Nat} {x : Str} {fb : SM} {fs : Nat → Nat → SM} (h : fb env st = .nx env' st') : SatS (sTry i x fb fs env st) N R = N env' st' := by
  have : sTry i x fb fs env st = .nx env' st' := by unfold sTry; rw [h]
  rw [this, ss_nx]
theorem ss_try_err {i : Nat} {x : Str} {fb : SM} {fs : Nat → Nat → SM} {fl : List (Str × PV)} {e2 : PEnv} {s2 : Store} (h : fb env st = .err env' x (some fl) st')
    (hs : ∀ a d, SatS (fs a d (env'.set i (some (.exc a d (fl.map (·.1)) (fl.map (·.2))))) st') (fun e s => e.set i none = e2 ∧ s = s2) fun _ _ => False) : SatS (sTry i x fb fs env st) N R = N e2 s2 := by
  have h1 : ∀ a d, unsetR i (fs a d (env'.set i (some (.exc a d (fl.map (·.1)) (fl.map (·.2))))) st') = .nx e2 s2 := fun a d => by
    rcases hs a d with ⟨e, s, h1, h2, rfl⟩ | ⟨v, s, h1, h2⟩
    · rw [h1]; show SR.nx (e.set i none) s = _; rw [h2]
    · exact False.elim h2
  have : sTry i x fb fs env st = .nx e2 s2 := by
    unfold sTry
    rw [h]
    show (if x = x then anyAd fun a d => unsetR i (fs a d (env'.set i (some (.exc a d (fl.map (·.1)) (fl.map (·.2))))) st') else .stuck) = _
    rw [if_pos rfl]
    unfold anyAd
    rw [if_pos fun a d => (h1 a d).trans (h1 0 0).symm]
    exact h1 0 0
  rw [this, ss_nx]
theorem sat_isE {a d i : Nat} {b : Bool} {ns : List Str} {xs : List PV} {Q : PV → Store → Prop} (e : env[i]? = some (some (.exc a d ns xs))) : Sat (eIsE a d b (eVar i) env st) Q = Q (.bl b) st := by
  unfold eIsE
  rw [sat_bind, sat_var e]
  show Sat (if _ then _ else _) Q = _
  rw [if_pos ⟨rfl, rfl⟩, sat_ok]
theorem sat_xf {a d i : Nat} {f : Str} {ns : List Str} {xs : List PV} {y : PV} {Q : PV → Store → Prop} (e : env[i]? = some (some (.exc a d ns xs))) (h : (ns.zip xs).lookup f = some y) : Sat (eXf a d f (eVar i) env st) Q = Q y st := by
  unfold eXf
  rw [sat_bind, sat_var e]
  show Sat (if _ then _ else _) Q = _
  rw [if_pos ⟨rfl, rfl⟩, h, sat_ok]
end
theorem check_err {g r : PV} {st : Store} (h : m_first_fault [g] st = .ok r st) (hd : DRes r) (hr : r ≠ .non) : m_check_game [g] st = .err "BadGame" (some [("fault", r)]) st := by
  have : f_check_game [some g, none] st = .err [some g, some r] "BadGame" (some [("fault", r)]) st := by
    unfold f_check_game
    have h1 : eCall 1 m_first_fault (aCons (eVar 0) aNil) [some g, none] st = .ok r st := det fun Q k => by
      rw [sat_call, sat_cons, sat_var rfl, sat_nil, h, sat_ok]; exact ⟨rfl, k⟩
    have h2 : eTest (eBin pIsNot (eVar 1) (eC .non)) [some g, some r] st = .ok true st := t_ok fun Q k => by
      rw [sat_bin, sat_var rfl, sat_c, hd.isNot, isNn_ne hr]; exact k
    rw [seq_nx (set_ok h1)]
    show sIf _ _ _ [some g, some r] st = _
    rw [if_ok h2, if_pos rfl, raise_ok (v := r) (det fun Q k => by rw [sat_var rfl]; exact k)]
  unfold m_check_game runBody
  show (match f_check_game [some g, none] st with
    | .nx _ st' => Res.ok PV.non st'
    | .rt v st' => .ok v st'
    | .err _ n fs st' => .err n fs st'
    | _ => .stuck) = _
  rw [this]
theorem check_ok {g : PV} {st : Store} (h : m_first_fault [g] st = .ok .non st) : m_check_game [g] st = .ok .non st := by
  refine det fun Q k => sat_body ?_
  unfold f_check_game
  simp only [List.map_cons, List.map_nil, List.length_cons, List.length_nil, Nat.reduceAdd, Nat.reduceSub, List.reduceReplicate, List.cons_append, List.nil_append]
  rw [ss_seq, ss_set, sat_call, sat_cons, sat_var rfl, sat_nil, h, sat_ok]
  refine ⟨rfl, ?_⟩
  rw [ss_if, sat_test, sat_bin, sat_var rfl, sat_c, o_isNotN, sat_truth, if_neg (by simp), ss_nil]
  exact k
/-! ### plain answers -/
inductive Pl : Nat → PV → Prop
  | s {d : Nat} {z : Str} : Pl d (.str z)
  | i {d : Nat} {j : Int} : Pl d (.int j)
  | t {d : Nat} {xs : List PV} : (∀ x ∈ xs, Pl d x) → Pl (d + 1) (.tup xs)
theorem kit_tt : kitB "tuple" "tuple" = some true := by decide +kernel
theorem kit_st : kitB "str" "tuple" = some false := by decide +kernel
theorem kit_it : kitB "int" "tuple" = some false := by decide +kernel
theorem kit_sb : kitB "str" "bool" = some false := by decide +kernel
theorem kit_ib : kitB "int" "bool" = some false := by decide +kernel
theorem kit_is : kitB "int" "str" = some false := by decide +kernel
theorem kit_ii : kitB "int" "int" = some true := by decide +kernel
theorem isi_of {v : PV} {n t : String} {b : Bool} {st : Store} {Q : PV → Store → Prop} (h1 : tyName st v = some t) (h2 : kitB t n = some b) : Sat (pIsi [v, .con (.ty n)] st) Q = Q (.bl b) st := by
  have : pIsi [v, .con (.ty n)] st = .ok (.bl b) st := by
    unfold pIsi
    simp only [h1, h2]
  rw [this, sat_ok]
theorem isi_two {v : PV} {t : String} {st : Store} {Q : PV → Store → Prop} (h1 : tyName st v = some t) (h2 : kitAll t [.con (.ty "str"), .con (.ty "int")] = some true) : Sat (pIsi [v, .tup [.con (.ty "str"), .con (.ty "int")]] st) Q = Q (.bl true) st := by
  have : pIsi [v, .tup [.con (.ty "str"), .con (.ty "int")]] st = .ok (.bl true) st := by
    unfold pIsi
    simp only [h1, h2, allTys, if_true]
  rw [this, sat_ok]
theorem kits_s : kitAll "str" [.con (.ty "str"), .con (.ty "int")] = some true := by simp only [kitAll, kit_ss]
theorem kits_i : kitAll "int" [.con (.ty "str"), .con (.ty "int")] = some true := by simp only [kitAll, kit_is, kit_ii]
theorem plain_ok : ∀ (n d : Nat) (v : PV) (st : Store), Pl d v → d < n → fuelF 2 f_law_plain n [v] st = .ok (.bl true) st
  | 0, d, v, st, _, hn => absurd hn (Nat.not_lt_zero _)
  | n + 1, d, v, st, h, hn => by
    refine det fun Q k => sat_body ?_
    unfold f_law_plain
    simp only [List.map_cons, List.map_nil, List.length_cons, List.length_nil, Nat.reduceAdd, Nat.reduceSub, List.reduceReplicate, List.cons_append, List.nil_append]
    cases h with
    | @s _ z =>
      rw [ss_seq, ss_if, sat_test, sat_args, sat_cons, sat_var rfl, sat_cons, sat_c, sat_nil, isi_of (t := "str") rfl kit_st, sat_truth, if_neg (by simp), ss_nil]
      rw [ss_ret, sat_andv, sat_notv, sat_args, sat_cons, sat_var rfl, sat_cons, sat_c, sat_nil, isi_of (t := "str") rfl kit_sb]
      show Sat (eArgs _ _ _ _) Q
      rw [sat_args, sat_cons, sat_var rfl, sat_cons, sat_args, sat_cons, sat_c, sat_cons, sat_c, sat_nil, sat_tup]
      refine ⟨by rw [sizeLine_eq]; show 2 ≤ _; decide, ?_⟩
      rw [sat_nil, isi_two (t := "str") rfl kits_s]
      exact k
    | @i _ j =>
      rw [ss_seq, ss_if, sat_test, sat_args, sat_cons, sat_var rfl, sat_cons, sat_c, sat_nil, isi_of (t := "int") rfl kit_it, sat_truth, if_neg (by simp), ss_nil]
      rw [ss_ret, sat_andv, sat_notv, sat_args, sat_cons, sat_var rfl, sat_cons, sat_c, sat_nil, isi_of (t := "int") rfl kit_ib]
      show Sat (eArgs _ _ _ _) Q
      rw [sat_args, sat_cons, sat_var rfl, sat_cons, sat_args, sat_cons, sat_c, sat_cons, sat_c, sat_nil, sat_tup]
      refine ⟨by rw [sizeLine_eq]; show 2 ≤ _; decide, ?_⟩
      rw [sat_nil, isi_two (t := "int") rfl kits_i]
      exact k
    | @t d xs hx =>
      rw [ss_seq, ss_if, sat_test, sat_args, sat_cons, sat_var rfl, sat_cons, sat_c, sat_nil, isi_of (t := "tuple") rfl kit_tt, sat_truth, if_pos rfl, ss_ret, sat_bin, sat_args, sat_cons, sat_comp, sat_iVal, sat_var rfl, o_itT]
      refine comp_inv (fun j acc t => t = st ∧ acc = []) (k := 0) ⟨rfl, rfl⟩ ?_ ?_
      · rintro j v t acc hv ⟨rfl, rfl⟩
        refine ⟨_, rfl, ?_⟩
        rw [sat_not, sat_test, sat_call, sat_cons, sat_var rfl, sat_nil]
        refine ⟨rfl, ?_⟩
        show Sat (fuelF 2 f_law_plain n [v] t) _
        rw [plain_ok n d v t (hx v (List.mem_of_getElem? hv)) (by omega), sat_ok, sat_truth, Bool.not_true, if_neg (by simp)]
        exact ⟨rfl, rfl⟩
      · rintro acc t ⟨rfl, rfl⟩
        rw [o_finF, sat_nil, sat_one, o_lenL, sat_c, o_eqI]
        exact k
theorem DRes.pl {r : PV} (h : DRes r) (hr : r ≠ .non) : Pl 2 r := by
  rcases h with rfl | ⟨a, b, k, rfl, hb⟩
  · exact absurd rfl hr
  · refine .t fun x hx => ?_
    simp only [List.mem_cons, List.not_mem_nil, or_false] at hx
    rcases hx with rfl | rfl | rfl
    · exact .s
    · rcases hb with ⟨i, rfl⟩ | ⟨p, rfl⟩
      · exact .i
      · refine .t fun y hy => ?_
        obtain ⟨j, _, rfl⟩ := List.mem_map.mp hy
        exact .i
    · exact .s
theorem DRes.data {r : PV} (h : DRes r) : isD r = true ∧ (toD r).depth ≤ 3 := by
  rcases h with rfl | ⟨a, b, k, rfl, hb⟩
  · exact ⟨by simp [isD], by simp [toD, PyData.depth]⟩
  · rcases hb with ⟨i, rfl⟩ | ⟨p, rfl⟩
    · exact ⟨by simp [isD, isDs], by simp [toD, toDs, PyData.depth, PyData.depthAll]⟩
    · exact ⟨by simp [isD, isDs, isDs_ints], by simp [toD, toDs, toDs_ints, PyData.depth, PyData.depthAll, depth_ints]⟩
theorem o_eqR {v : PV} {st : Store} {Q : PV → Store → Prop} (h : isD v = true) (h2 : (toD v).depth ≤ 64) : Sat (pEq v v st) Q = Q (.bl true) st := by
  unfold pEq
  rw [if_pos ⟨h, h, by omega⟩, sat_ok, PySem.SeqAt.eqv_refl_plain _ (plain_toD v)]
theorem o_neR {v : PV} {st : Store} {Q : PV → Store → Prop} (h : isD v = true) (h2 : (toD v).depth ≤ 64) : Sat (pNe v v st) Q = Q (.bl false) st := by
  unfold pNe
  rw [if_pos ⟨h, h, by omega⟩, sat_ok, PySem.SeqAt.eqv_refl_plain _ (plain_toD v)]
  rfl
theorem o_tupL' {xs : List PV} {st : Store} {Q : PV → Store → Prop} : Sat (one pTuple [.lst xs] st) Q = Q (.tup xs) st := sat_of rfl
theorem pair_ok {a b : PV} : ([a, b] : List PV).length ≤ sizeLine := by rw [sizeLine_eq]; show 2 ≤ _; decide
theorem single_ok {a : PV} : ([a] : List PV).length ≤ sizeLine := by rw [sizeLine_eq]; show 1 ≤ _; decide
theorem agrees_eq {rows : List PV} {tree : PV} {st : Store} (hr : ∀ r ∈ rows, SRow 70 r) (hrl : rows.length ≤ 400) (ht : TreeOk 600 20 tree) : m_law_agrees [.tup rows, tree] st = .ok (.bl true) st := by
  obtain ⟨r, hd, h1, h2⟩ := due_both hr hrl ht
  obtain ⟨d1, d2⟩ := hd.data
  refine det fun Q k => sat_body ?_
  unfold f_law_agrees
  simp only [List.map_cons, List.map_nil, List.length_cons, List.length_nil, Nat.reduceAdd, Nat.reduceSub, List.reduceReplicate, List.cons_append, List.nil_append]
  rw [ss_seq, ss_set, sat_call, sat_cons, sat_var rfl, sat_cons, sat_var rfl, sat_nil, h2, sat_ok]
  refine ⟨rfl, ?_⟩
  rw [ss_seq, ss_set, sat_call, sat_cons, sat_args, sat_cons, sat_var rfl, sat_cons, sat_var rfl, sat_nil, sat_tup]
  refine ⟨pair_ok, ?_⟩
  rw [sat_nil, h1, sat_ok]
  refine ⟨rfl, ?_⟩
  rw [ss_seq, ss_set, sat_args, sat_nil, sat_lst]
  refine ⟨Nat.zero_le _, ?_⟩
  rw [ss_seq, ss_set, sat_c]
  rw [ss_seq]
  have hargs : ∀ env : PEnv, env[0]? = some (some (.tup rows)) → env[1]? = some (some tree) → (aCons (eArgs mkTup (aCons (eVar 0) (aCons (eVar 1) aNil))) aNil) env st = .ok [.tup [.tup rows, tree]] st := fun env e0 e1 => det fun Q k => by
    rw [sat_cons, sat_args, sat_cons, sat_var e0, sat_cons, sat_var e1, sat_nil, sat_tup]
    refine ⟨pair_ok, ?_⟩
    rw [sat_nil]; exact k
  have hcall : ∀ env : PEnv, env[0]? = some (some (.tup rows)) → env[1]? = some (some tree) → eCallX 1 m_check_game (aCons (eArgs mkTup (aCons (eVar 0) (aCons (eVar 1) aNil))) aNil) env st = m_check_game [.tup [.tup rows, tree]] st := fun env e0 e1 => callX_eq (hargs env e0 e1) rfl
  by_cases hz : r = .non
  · subst hz
    rw [ss_try_nx (set_ok ((hcall _ rfl rfl).trans (check_ok (h1 st))))]
    rw [ss_seq, ss_if, sat_test, sat_bin, sat_var rfl, sat_c, o_isN, sat_truth, if_pos rfl, ss_ret, sat_andv, sat_bin, sat_var rfl, sat_c, o_isN]
    show Sat (eAndV _ _ _ _) Q
    rw [sat_andv, sat_bin, sat_var rfl, sat_args, sat_nil, sat_lst]
    refine ⟨Nat.zero_le _, ?_⟩
    rw [o_eqR (by simp [isD, isDs]) (by simp [toD, toDs, PyData.depth, PyData.depthAll])]
    show Sat (eBin _ _ _ _ _) Q
    rw [sat_bin, sat_var rfl, sat_c, o_isN]
    exact k
  · rw [ss_try_err (e2 := [some (.tup rows), some tree, some r, some r, some (.lst [r]), some .non, none, some (.bl false)]) (s2 := st) (set_err ((hcall _ rfl rfl).trans (check_err (h1 st) hd hz)))]
    · have p1 := hd.pl hz
      have p2 : Pl 3 (.tup [r]) := .t fun x hx => by
        rw [List.mem_singleton.mp hx]; exact p1
      rw [ss_seq, ss_if, sat_test, sat_bin, sat_var rfl, sat_c, hd.is, isNn_ne hz, sat_truth, if_neg (by simp), ss_nil]
      rw [ss_seq, ss_if, sat_or, sat_not, sat_test, sat_call, sat_cons, sat_args, sat_cons, sat_var rfl, sat_nil, o_tupL', sat_nil]
      refine ⟨rfl, ?_⟩
      show Sat (fuelF 2 f_law_plain 60 [.tup [r]] st) _
      rw [plain_ok 60 3 _ st p2 (by decide), sat_ok, sat_truth, Bool.not_true, if_neg (by simp), sat_or, sat_test, sat_bin, sat_var rfl, sat_args, sat_cons, sat_var rfl, sat_nil, sat_lst]
      refine ⟨single_ok, ?_⟩
      rw [o_neR (by simp [isD, isDs, d1]) (by simp [toD, toDs, PyData.depth, PyData.depthAll]; omega), sat_truth, if_neg (by simp), sat_test, sat_bin, sat_var rfl, sat_var rfl, o_neR d1 (by omega), sat_truth, if_neg (by simp), ss_nil]
      rw [ss_ret, sat_andv, sat_call, sat_cons, sat_var rfl, sat_nil]
      refine ⟨rfl, ?_⟩
      show Sat (fuelF 2 f_law_plain 60 [r] st) _
      rw [plain_ok 60 2 _ st p1 (by decide), sat_ok]
      show Sat (eBin _ _ _ _ _) Q
      rw [sat_bin, sat_var rfl, sat_var rfl, o_eqR d1 (by omega)]
      exact k
    · intro a d
      rw [ss_seq, ss_set, sat_isE rfl, ss_seq, ss_set, sat_args, sat_cons, sat_c, sat_nil, sat_lst]
      refine ⟨single_ok, ?_⟩
      rw [ss_if, sat_and, sat_test, sat_isE rfl, sat_truth, if_pos rfl, sat_and, sat_test, sat_isE rfl, sat_truth, if_pos rfl, sat_not, sat_test, sat_var rfl, sat_truth, Bool.not_false, if_pos rfl, ss_set, sat_args, sat_cons, sat_xf rfl rfl, sat_nil, sat_lst]
      exact ⟨single_ok, rfl, rfl⟩
theorem law_ok (ns : List Int) (hn : ns.length ≤ 63) : ∃ s, m_law [scr ns] [] = .ok (.bl true) s := by
  have : Sat (m_law [scr ns] []) fun v s => v = .bl true := by
    refine sat_body ?_
    unfold f_law
    simp only [List.map_cons, List.map_nil, List.length_cons, List.length_nil, Nat.reduceAdd, Nat.reduceSub, List.reduceReplicate, List.cons_append, List.nil_append]
    rw [ss_seq, ss_set, sat_call, sat_cons, sat_var rfl, sat_nil]
    refine ⟨rfl, (source_ok (ns := ns)).mono ?_⟩
    rintro _ s0 ⟨rfl, o, rfl, hs⟩
    generalize hl : (([] : Store)).length = l at hs ⊢
    rw [ss_seq, ss_tg, sat_call, sat_cons, sat_var rfl, sat_cons, sat_var rfl, sat_cons, sat_call, sat_cons, sat_var rfl, sat_cons, sat_var rfl, sat_cons, sat_c, sat_cons, sat_c, sat_cons, sat_c, sat_nil]
    refine ⟨rfl, game_ok hs fun rows tree s r1 r2 r3 r4 r5 => ?_⟩
    rw [sat_nil]
    refine ⟨rfl, spoilt_ok r4 (by omega) (fun r m => (r2 r m).srow) r3 fun rows' tree' s' q1 q2 q3 q4 q5 => ?_⟩
    refine ⟨[some (scr ns), some (.loc l), some (.tup rows'), some tree'], rfl, ?_⟩
    rw [ss_guard (b := false) (tn_ok (b := true) (t_ok fun Q k => by
      rw [sat_call, sat_cons, sat_var rfl, sat_cons, sat_var rfl, sat_nil, agrees_eq q2 q1 q3, sat_ok]
      exact ⟨rfl, k⟩)), if_neg (by simp)]
    rw [ss_seq, ss_if, sat_test, sat_bin, sat_call, sat_cons, sat_var rfl, sat_cons, sat_var rfl, sat_cons, sat_c, sat_nil]
    refine ⟨rfl, draw' q4 (by decide) (by decide) fun x s2 _ _ hs2 g2 => ?_⟩
    rw [sat_c, o_gtI, sat_truth]
    by_cases hx : (0 : Int) < x
    · rw [decide_eq_true hx, if_pos rfl, ss_ret, sat_c]
    · rw [decide_eq_false hx, if_neg (by simp), ss_nil]
      rw [ss_seq, ss_tg, sat_call, sat_cons, sat_var rfl, sat_cons, sat_var rfl, sat_cons, sat_call, sat_cons, sat_var rfl, sat_cons, sat_var rfl, sat_nil]
      refine ⟨rfl, wide_ok hs2 fun rows tree s r1 r2 r3 r4 r5 => ?_⟩
      rw [sat_nil]
      refine ⟨rfl, spoilt_ok r4 (by omega) (fun r m => (r2 r m).srow) (r3.mono (by omega) (by omega)) fun rows' tree' s' q1 q2 q3 q4 q5 => ?_⟩
      refine ⟨[some (scr ns), some (.loc l), some (.tup rows'), some tree'], rfl, ?_⟩
      rw [ss_ret, sat_call, sat_cons, sat_var rfl, sat_cons, sat_var rfl, sat_nil, agrees_eq q2 q1 q3, sat_ok]
      exact ⟨rfl, rfl⟩
  obtain ⟨v, s, e, rfl⟩ := this.elim
  exact ⟨s, e⟩
end PL
/-! printed by gen.py: the text's places -/
namespace PL
open PySem PySem.Spec PyProof.Rows L2
def topS (i : Nat) : Stmt := PySem.Challenge.pw_sequencesandadvice_k87_first_fault.main.body.getD i (.Pass ⟨0, 0, 0, 0⟩)
structure Blt (mg : Str → Option Value) : Prop where
  b_ValueError : mg "ValueError" = none
  b_abs : mg "abs" = none
  b_bool : mg "bool" = none
  b_enumerate : mg "enumerate" = none
  b_int : mg "int" = none
  b_isinstance : mg "isinstance" = none
  b_len : mg "len" = none
  b_list : mg "list" = none
  b_max : mg "max" = none
  b_min : mg "min" = none
  b_range : mg "range" = none
  b_sorted : mg "sorted" = none
  b_str : mg "str" = none
  b_sum : mg "sum" = none
  b_tuple : mg "tuple" = none
  g_gcd : mg "gcd" = some (.builtin "math.gcd")
  c_DIGITS : ∃ t, mg "DIGITS" = some (.str ("0123456789" : Str) t)
  c_LETTERS : ∃ t, mg "LETTERS" = some (.str ("abcdefghijklmnopqrstuvwxyz" : Str) t)
  c_LONGEST_NAME : ∃ t, mg "LONGEST_NAME" = some (.int 12 t)
  c_MOST_MOVES : ∃ t, mg "MOST_MOVES" = some (.int 64 t)
abbrev s_reduced : Stmt := topS 14
theorem sc_reduced : FnScope N_reduced ["weights"] (defScope s_reduced) := ⟨rfl, rfl, rfl, by decide +kernel, rfl, by decide +kernel, by decide +kernel⟩
abbrev s_is_name : Stmt := topS 19
theorem sc_is_name : FnScope N_is_name ["word"] (defScope s_is_name) := ⟨rfl, rfl, rfl, by decide +kernel, rfl, by decide +kernel, by decide +kernel⟩
abbrev s_row_of : Stmt := topS 22
theorem sc_row_of : FnScope N_row_of ["game", "name"] (defScope s_row_of) := ⟨rfl, rfl, rfl, by decide +kernel, rfl, by decide +kernel, by decide +kernel⟩
abbrev s_are_weights : Stmt := topS 23
theorem sc_are_weights : FnScope N_are_weights ["owner", "weights"] (defScope s_are_weights) := ⟨rfl, rfl, rfl, by decide +kernel, rfl, by decide +kernel, by decide +kernel⟩
abbrev s_row_fault : Stmt := topS 24
theorem sc_row_fault : FnScope N_row_fault ["sets", "index"] (defScope s_row_fault) := ⟨rfl, rfl, rfl, by decide +kernel, rfl, by decide +kernel, by decide +kernel⟩
abbrev s_node_fault : Stmt := topS 25
theorem sc_node_fault : FnScope N_node_fault ["game", "node", "path", "passed"] (defScope s_node_fault) := ⟨rfl, rfl, rfl, by decide +kernel, rfl, by decide +kernel, by decide +kernel⟩
abbrev s_first_fault : Stmt := topS 26
theorem sc_first_fault : FnScope N_first_fault ["game"] (defScope s_first_fault) := ⟨rfl, rfl, rfl, by decide +kernel, rfl, by decide +kernel, by decide +kernel⟩
abbrev s_check_game : Stmt := topS 27
theorem sc_check_game : FnScope N_check_game ["game"] (defScope s_check_game) := ⟨rfl, rfl, rfl, by decide +kernel, rfl, by decide +kernel, by decide +kernel⟩
abbrev s_law_source : Stmt := topS 29
theorem sc_law_source : FnScope N_law_source ["script"] (defScope s_law_source) := ⟨rfl, rfl, rfl, by decide +kernel, rfl, by decide +kernel, by decide +kernel⟩
abbrev s_law_draw : Stmt := topS 30
theorem sc_law_draw : FnScope N_law_draw ["script", "source", "limit"] (defScope s_law_draw) := ⟨rfl, rfl, rfl, by decide +kernel, rfl, by decide +kernel, by decide +kernel⟩
abbrev s_law_name : Stmt := topS 31
theorem sc_law_name : FnScope N_law_name ["script", "source", "used"] (defScope s_law_name) := ⟨rfl, rfl, rfl, by decide +kernel, rfl, by decide +kernel, by decide +kernel⟩
abbrev s_law_gcd : Stmt := topS 32
theorem sc_law_gcd : FnScope N_law_gcd ["a", "b"] (defScope s_law_gcd) := ⟨rfl, rfl, rfl, by decide +kernel, rfl, by decide +kernel, by decide +kernel⟩
abbrev s_law_reduced : Stmt := topS 33
theorem sc_law_reduced : FnScope N_law_reduced ["weights"] (defScope s_law_reduced) := ⟨rfl, rfl, rfl, by decide +kernel, rfl, by decide +kernel, by decide +kernel⟩
abbrev s_law_sets : Stmt := topS 34
theorem sc_law_sets : FnScope N_law_sets ["script", "source", "many", "most"] (defScope s_law_sets) := ⟨rfl, rfl, rfl, by decide +kernel, rfl, by decide +kernel, by decide +kernel⟩
abbrev s_law_tree : Stmt := topS 35
theorem sc_law_tree : FnScope N_law_tree ["script", "source", "free", "outcomes", "room", "wish"] (defScope s_law_tree) := ⟨rfl, rfl, rfl, by decide +kernel, rfl, by decide +kernel, by decide +kernel⟩
abbrev s_law_game : Stmt := topS 36
theorem sc_law_game : FnScope N_law_game ["script", "source", "many", "most", "nodes"] (defScope s_law_game) := ⟨rfl, rfl, rfl, by decide +kernel, rfl, by decide +kernel, by decide +kernel⟩
abbrev s_law_plain : Stmt := topS 37
theorem sc_law_plain : FnScope N_law_plain ["answer"] (defScope s_law_plain) := ⟨rfl, rfl, rfl, by decide +kernel, rfl, by decide +kernel, by decide +kernel⟩
abbrev s_law_bad_name : Stmt := topS 38
theorem sc_law_bad_name : FnScope N_law_bad_name ["script", "source"] (defScope s_law_bad_name) := ⟨rfl, rfl, rfl, by decide +kernel, rfl, by decide +kernel, by decide +kernel⟩
abbrev s_law_spoilt_rows : Stmt := topS 39
theorem sc_law_spoilt_rows : FnScope N_law_spoilt_rows ["script", "source", "rows"] (defScope s_law_spoilt_rows) := ⟨rfl, rfl, rfl, by decide +kernel, rfl, by decide +kernel, by decide +kernel⟩
abbrev s_law_spoilt_tree : Stmt := topS 40
theorem sc_law_spoilt_tree : FnScope N_law_spoilt_tree ["script", "source", "rows", "tree", "names", "left"] (defScope s_law_spoilt_tree) := ⟨rfl, rfl, rfl, by decide +kernel, rfl, by decide +kernel, by decide +kernel⟩
abbrev s_law_is_name : Stmt := topS 41
theorem sc_law_is_name : FnScope N_law_is_name ["word"] (defScope s_law_is_name) := ⟨rfl, rfl, rfl, by decide +kernel, rfl, by decide +kernel, by decide +kernel⟩
abbrev s_law_row_fault : Stmt := topS 42
theorem sc_law_row_fault : FnScope N_law_row_fault ["rows", "at"] (defScope s_law_row_fault) := ⟨rfl, rfl, rfl, by decide +kernel, rfl, by decide +kernel, by decide +kernel⟩
abbrev s_law_node_fault : Stmt := topS 43
theorem sc_law_node_fault : FnScope N_law_node_fault ["rows", "tree", "path", "names"] (defScope s_law_node_fault) := ⟨rfl, rfl, rfl, by decide +kernel, rfl, by decide +kernel, by decide +kernel⟩
abbrev s_law_due : Stmt := topS 44
theorem sc_law_due : FnScope N_law_due ["rows", "tree"] (defScope s_law_due) := ⟨rfl, rfl, rfl, by decide +kernel, rfl, by decide +kernel, by decide +kernel⟩
abbrev s_law_size : Stmt := topS 45
theorem sc_law_size : FnScope N_law_size ["tree"] (defScope s_law_size) := ⟨rfl, rfl, rfl, by decide +kernel, rfl, by decide +kernel, by decide +kernel⟩
abbrev s_law_spine : Stmt := topS 46
theorem sc_law_spine : FnScope N_law_spine ["script", "source", "free", "outcomes", "room", "deep"] (defScope s_law_spine) := ⟨rfl, rfl, rfl, by decide +kernel, rfl, by decide +kernel, by decide +kernel⟩
abbrev s_law_wide : Stmt := topS 47
theorem sc_law_wide : FnScope N_law_wide ["script", "source"] (defScope s_law_wide) := ⟨rfl, rfl, rfl, by decide +kernel, rfl, by decide +kernel, by decide +kernel⟩
abbrev s_law_spoilt : Stmt := topS 48
theorem sc_law_spoilt : FnScope N_law_spoilt ["script", "source", "game"] (defScope s_law_spoilt) := ⟨rfl, rfl, rfl, by decide +kernel, rfl, by decide +kernel, by decide +kernel⟩
abbrev s_law_agrees : Stmt := topS 49
theorem sc_law_agrees : FnScope N_law_agrees ["rows", "tree"] (defScope s_law_agrees) := ⟨rfl, rfl, rfl, by decide +kernel, rfl, by decide +kernel, by decide +kernel⟩
abbrev s_law : Stmt := topS 50
theorem sc_law : FnScope N_law ["script"] (defScope s_law) := ⟨rfl, rfl, rfl, by decide +kernel, rfl, by decide +kernel, by decide +kernel⟩
end PL
/-! printed by gen.py: reduced is worth its evaluator -/
namespace PL
open PySem PySem.Spec PyProof.Rows L2
section
variable {P : Program} {w : World} {K : PySem.W.Frag} {mg : Str → Option Value} {base : Heap}
theorem has_reduced (B : Blt mg) (d : DefOf K mg "reduced" s_reduced ["weights"])   : Has P w K mg base "reduced" ["weights"] 1 m_reduced :=
  has_of (k := 0) (N := N_reduced) d sc_reduced fun cdv A outer s H E hr =>
  (mb_cons (ms_set (i := 1) sc_reduced.nd me_int)
    (mb_cons (ms_for PassesOwn.never rfl (mi_val (me_var 0)) (mg_one (i := 2) sc_reduced.nd)
    (mb_one (ms_set (i := 1) sc_reduced.nd (me_callG cs_gcd rfl B.g_gcd (ma_cons (me_var 1) (ma_cons (me_var 2) ma_nil))))))
    (mb_cons (ms_if (mt_cmp (os_eq hr.units) (me_var 1) me_int) (mb_one (ms_ret (me_callTy cs_tuple rfl B.b_tuple bt_tuple (ma_cons (me_var 0) ma_nil)))) mb_nil)
    (mb_one (ms_ret (me_callTy cs_tuple rfl B.b_tuple bt_tuple (ma_cons (me_compG false (own := [("weight", 2)]) rfl sc_reduced.nd (mi_val (me_var 0)) (blkOk_by (own := [("weight", 2)]) (N := N_reduced) (sc := defScope s_reduced) (by decide +kernel)) (fun _ _ _ _ _ => (mg_one (i := 2) sc_reduced.nd)) (fun _ _ _ _ _ => mts_nil) (fun _ _ _ _ _ => (me_bin os_fdiv (me_var 2) (me_var 1)))) ma_nil)))))))
end
end PL
/-! printed by gen.py: is_name is worth its evaluator -/
namespace PL
open PySem PySem.Spec PyProof.Rows L2
section
variable {P : Program} {w : World} {K : PySem.W.Frag} {mg : Str → Option Value} {base : Heap}
theorem has_is_name (B : Blt mg) (d : DefOf K mg "is_name" s_is_name ["word"])   : Has P w K mg base "is_name" ["word"] 1 m_is_name :=
  has_of (k := 0) (N := N_is_name) d sc_is_name fun cdv A outer s H E hr =>
  (mb_cons (ms_if (PW.pt (mw_or (mt_not (mt_chain (os_le hr.units) (os_le hr.units) me_int (me_callB cs_len rfl B.b_len bb_len (ma_cons (me_var 0) ma_nil)) (me_gint rfl (B.c_LONGEST_NAME).choose_spec))) (mw_or1 (mt_cmp (os_notIn hr.units) (me_ix is_ix (me_var 0) me_int) (me_gstr rfl (B.c_LETTERS).choose_spec))))) (mb_one (ms_ret me_bl)) mb_nil)
    (mb_cons (ms_for PassesOwn.never rfl (mi_val (me_var 0)) (mg_one (i := 1) sc_is_name.nd)
    (mb_one (ms_if (PW.pt (mw_and (mt_cmp (os_notIn hr.units) (me_var 1) (me_gstr rfl (B.c_LETTERS).choose_spec)) (mw_and1 (mt_cmp (os_notIn hr.units) (me_var 1) (me_gstr rfl (B.c_DIGITS).choose_spec))))) (mb_one (ms_ret me_bl)) mb_nil)))
    (mb_one (ms_ret me_bl))))
end
end PL
/-! printed by gen.py: row_of is worth its evaluator -/
namespace PL
open PySem PySem.Spec PyProof.Rows L2
section
variable {P : Program} {w : World} {K : PySem.W.Frag} {mg : Str → Option Value} {base : Heap}
theorem has_row_of (B : Blt mg) (d : DefOf K mg "row_of" s_row_of ["game", "name"])   : Has P w K mg base "row_of" ["game", "name"] 1 m_row_of :=
  has_of (k := 0) (N := N_row_of) d sc_row_of fun cdv A outer s H E hr =>
  (mb_cons (ms_for PassesOwn.never rfl (mi_val (me_ix is_ix (me_var 0) me_int)) (mg_one (i := 2) sc_row_of.nd)
    (mb_one (ms_if (mt_cmp (os_eq hr.units) (me_ix is_ix (me_var 2) me_int) (me_var 1)) (mb_one (ms_ret (me_var 2))) mb_nil)))
    (mb_one (ms_ret me_non)))
end
end PL
/-! printed by gen.py: are_weights is worth its evaluator -/
namespace PL
open PySem PySem.Spec PyProof.Rows L2
section
variable {P : Program} {w : World} {K : PySem.W.Frag} {mg : Str → Option Value} {base : Heap}
theorem has_are_weights (B : Blt mg) (d : DefOf K mg "are_weights" s_are_weights ["owner", "weights"])  (h_reduced : Has P w K mg base "reduced" ["weights"] 1 m_reduced) : Has P w K mg base "are_weights" ["owner", "weights"] 2 m_are_weights :=
  has_of (k := 1) (N := N_are_weights) d sc_are_weights fun cdv A outer s H E hr =>
  (mb_cons (ms_if (mt_not (mt_chain (os_le hr.units) (os_le hr.units) me_int (me_callB cs_len rfl B.b_len bb_len (ma_cons (me_var 1) ma_nil)) (me_gint rfl (B.c_MOST_MOVES).choose_spec))) (mb_one (ms_ret me_bl)) mb_nil)
    (mb_cons (ms_for PassesOwn.never rfl (mi_val (me_var 1)) (mg_one (i := 2) sc_are_weights.nd)
    (mb_one (ms_if (PW.pt (mw_or (mt_cmp (os_lt hr.units) (me_var 2) me_int) (mw_or1 (PW.pt (mw_and (mt_cmp (os_ne hr.units) (me_var 0) me_int) (mw_and1 (mt_cmp (os_ne hr.units) (me_var 2) me_int))))))) (mb_one (ms_ret me_bl)) mb_nil)))
    (mb_one (ms_ret (me_cmp (os_eq hr.units) (me_callH h_reduced (hr.mono (by decide)) (ma_cons (me_var 1) ma_nil)) (me_callTy cs_tuple rfl B.b_tuple bt_tuple (ma_cons (me_var 1) ma_nil)))))))
end
end PL
/-! printed by gen.py: _row_fault is worth its evaluator -/
namespace PL
open PySem PySem.Spec PyProof.Rows L2
section
variable {P : Program} {w : World} {K : PySem.W.Frag} {mg : Str → Option Value} {base : Heap}
theorem has_row_fault (B : Blt mg) (d : DefOf K mg "_row_fault" s_row_fault ["sets", "index"])  (h_is_name : Has P w K mg base "is_name" ["word"] 1 m_is_name) (h_are_weights : Has P w K mg base "are_weights" ["owner", "weights"] 2 m_are_weights) : Has P w K mg base "_row_fault" ["sets", "index"] 3 m_row_fault :=
  has_of (k := 2) (N := N_row_fault) d sc_row_fault fun cdv A outer s H E hr =>
  (mb_cons (ms_tg (mg_tup rfl (mgs_cons (i := 2) sc_row_fault.nd (mgs_cons (i := 3) sc_row_fault.nd (mgs_cons (i := 4) sc_row_fault.nd mgs_nil)))) (me_ix is_ix (me_var 0) (me_var 1)))
    (mb_cons (ms_if (mt_not (mt_val (me_callH h_is_name (hr.mono (by decide)) (ma_cons (me_var 2) ma_nil)))) (mb_one (ms_ret me_str)) mb_nil)
    (mb_cons (ms_if (PW.pt (mw_and (mt_cmp (os_gt hr.units) (me_var 1) me_int) (mw_and1 (mt_not (mt_cmp (os_lt hr.units) (me_ix is_ix (me_ix is_ix (me_var 0) (me_bin os_sub (me_var 1) me_int)) me_int) (me_var 2)))))) (mb_one (ms_ret me_str)) mb_nil)
    (mb_cons (ms_if (mt_cmp (os_notIn hr.units) (me_var 3) (me_tup (ma_cons me_int (ma_cons me_int (ma_cons me_int ma_nil))))) (mb_one (ms_ret me_str)) mb_nil)
    (mb_cons (ms_if (mt_not (mt_val (me_callH h_are_weights (hr.mono (by decide)) (ma_cons (me_var 3) (ma_cons (me_var 4) ma_nil))))) (mb_one (ms_ret me_str)) mb_nil)
    (mb_one (ms_ret me_non)))))))
end
end PL
/-! printed by gen.py: _node_fault is worth its evaluator -/
namespace PL
open PySem PySem.Spec PyProof.Rows L2
section
variable {P : Program} {w : World} {K : PySem.W.Frag} {mg : Str → Option Value} {base : Heap}
theorem has_node_fault (B : Blt mg) (d : DefOf K mg "_node_fault" s_node_fault ["game", "node", "path", "passed"])  (h_is_name : Has P w K mg base "is_name" ["word"] 1 m_is_name) (h_row_of : Has P w K mg base "row_of" ["game", "name"] 1 m_row_of) : Has P w K mg base "_node_fault" ["game", "node", "path", "passed"] 62 m_node_fault :=
  has_rec (k := 2) (n := 60) (N := N_node_fault) d sc_node_fault (by decide) fun n HS cdv A outer s H E hr =>
  (mb_cons (ms_if (mt_val (me_callB cs_isi rfl B.b_isinstance bb_isinstance (ma_cons (me_var 1) (ma_cons (me_bval (v := .ty "str") rfl B.b_str bt_str rfl) ma_nil)))) (mb_cons (ms_if (mt_val (me_callH h_is_name (hr.mono (by omega)) (ma_cons (me_var 1) ma_nil))) (mb_one (ms_ret me_non)) mb_nil)
    (mb_one (ms_ret (me_tup (ma_cons me_str (ma_cons (me_var 2) (ma_cons me_str ma_nil))))))) mb_nil)
    (mb_cons (ms_set (i := 4) sc_node_fault.nd (me_callH h_row_of (hr.mono (by omega)) (ma_cons (me_var 0) (ma_cons (me_ix is_ix (me_var 1) me_int) ma_nil))))
    (mb_cons (ms_if (mt_cmp os_is (me_var 4) me_non) (mb_one (ms_ret (me_tup (ma_cons me_str (ma_cons (me_var 2) (ma_cons me_str ma_nil)))))) mb_nil)
    (mb_cons (ms_if (mt_cmp (os_ne hr.units) (me_callB cs_len rfl B.b_len bb_len (ma_cons (me_ix is_ix (me_var 1) me_int) ma_nil)) (me_callB cs_len rfl B.b_len bb_len (ma_cons (me_ix is_ix (me_var 4) me_int) ma_nil))) (mb_one (ms_ret (me_tup (ma_cons me_str (ma_cons (me_var 2) (ma_cons me_str ma_nil)))))) mb_nil)
    (mb_cons (ms_if (mt_cmp (os_in hr.units) (me_ix is_ix (me_var 1) me_int) (me_var 3)) (mb_one (ms_ret (me_tup (ma_cons me_str (ma_cons (me_var 2) (ma_cons me_str ma_nil)))))) mb_nil)
    (mb_cons (ms_for PassesOwn.never rfl (mi_enum rfl B.b_enumerate (me_ix is_ix (me_var 1) me_int)) (mg_tup rfl (mgs_cons (i := 5) sc_node_fault.nd (mgs_cons (i := 6) sc_node_fault.nd mgs_nil)))
    (mb_cons (ms_set (i := 7) sc_node_fault.nd (me_callH HS hr (ma_cons (me_var 0) (ma_cons (me_var 6) (ma_cons (me_bin os_add (me_var 2) (me_tup (ma_cons (me_var 5) ma_nil))) (ma_cons (me_bin os_add (me_var 3) (me_tup (ma_cons (me_ix is_ix (me_var 1) me_int) ma_nil))) ma_nil))))))
    (mb_one (ms_if (mt_cmp os_isNot (me_var 7) me_non) (mb_one (ms_ret (me_var 7))) mb_nil))))
    (mb_one (ms_ret me_non))))))))
end
end PL
/-! printed by gen.py: first_fault is worth its evaluator -/
namespace PL
open PySem PySem.Spec PyProof.Rows L2
section
variable {P : Program} {w : World} {K : PySem.W.Frag} {mg : Str → Option Value} {base : Heap}
theorem has_first_fault (B : Blt mg) (d : DefOf K mg "first_fault" s_first_fault ["game"])  (h_row_fault : Has P w K mg base "_row_fault" ["sets", "index"] 3 m_row_fault) (h_node_fault : Has P w K mg base "_node_fault" ["game", "node", "path", "passed"] 62 m_node_fault) : Has P w K mg base "first_fault" ["game"] 63 m_first_fault :=
  has_of (k := 62) (N := N_first_fault) d sc_first_fault fun cdv A outer s H E hr =>
  (mb_cons (ms_tg (mg_tup rfl (mgs_cons (i := 2) sc_first_fault.nd (mgs_cons (i := 3) sc_first_fault.nd mgs_nil))) (me_var 0))
    (mb_cons (ms_for PassesOwn.never rfl (mi_range1 rfl B.b_range (me_callB cs_len rfl B.b_len bb_len (ma_cons (me_var 2) ma_nil))) (mg_one (i := 1) sc_first_fault.nd)
    (mb_cons (ms_set (i := 4) sc_first_fault.nd (me_callH h_row_fault (hr.mono (by decide)) (ma_cons (me_var 2) (ma_cons (me_var 1) ma_nil))))
    (mb_one (ms_if (mt_cmp os_isNot (me_var 4) me_non) (mb_one (ms_ret (me_tup (ma_cons me_str (ma_cons (me_var 1) (ma_cons (me_var 4) ma_nil)))))) mb_nil))))
    (mb_one (ms_ret (me_callH h_node_fault (hr.mono (by decide)) (ma_cons (me_var 0) (ma_cons (me_var 3) (ma_cons (me_tup ma_nil) (ma_cons (me_tup ma_nil) ma_nil)))))))))
end
end PL
/-! printed by gen.py: check_game is worth its evaluator -/
namespace PL
open PySem PySem.Spec PyProof.Rows L2
section
variable {P : Program} {w : World} {K : PySem.W.Frag} {mg : Str → Option Value} {base : Heap}
theorem has_check_game (B : Blt mg) (d : DefOf K mg "check_game" s_check_game ["game"])  {C_BadGame fI_BadGame : Addr} (x_BadGame : PLX.XTxt P K mg "BadGame" C_BadGame fI_BadGame "fault" "BadGame.__init__") (h_first_fault : Has P w K mg base "first_fault" ["game"] 63 m_first_fault) : HasX P w K mg base "check_game" ["game"] 64 m_check_game :=
  hasX_of (k := 63) (N := N_check_game) d sc_check_game fun cdv A outer s H E hr =>
  (mb_cons (ms_set (i := 1) sc_check_game.nd (me_callH h_first_fault (hr.mono (by decide)) (ma_cons (me_var 0) ma_nil)))
    (mb_one (ms_if (mt_cmp os_isNot (me_var 1) me_non) (mb_one (ms_raise (k := 0) rfl (takes_of rfl rfl rfl rfl) x_BadGame (hr.mono (by decide)) (me_var 1))) mb_nil)))
end
end PL
/-! printed by gen.py: _law_source is worth its evaluator -/
namespace PL
open PySem PySem.Spec PyProof.Rows L2
section
variable {P : Program} {w : World} {K : PySem.W.Frag} {mg : Str → Option Value} {base : Heap}
theorem has_law_source (B : Blt mg) (d : DefOf K mg "_law_source" s_law_source ["script"])   : Has P w K mg base "_law_source" ["script"] 1 m_law_source :=
  has_of (k := 0) (N := N_law_source) d sc_law_source fun cdv A outer s H E hr =>
  (mb_cons (ms_set (i := 1) sc_law_source.nd me_int)
    (mb_cons (ms_for PassesOwn.never rfl (mi_val (me_var 0)) (mg_one (i := 2) sc_law_source.nd)
    (mb_one (ms_set (i := 1) sc_law_source.nd (me_bin os_mod (me_callTy cs_int rfl B.b_int bt_int (ma_cons (me_bin os_add (me_bin os_add (me_bin os_mul (me_var 1) me_int) (me_bin os_mul (me_var 2) me_int)) me_int) ma_nil)) me_int))))
    (mb_one (ms_ret (me_loc (ma_cons me_int (ma_cons me_int (ma_cons (me_var 1) ma_nil))))))))
end
end PL
/-! printed by gen.py: _law_draw is worth its evaluator -/
namespace PL
open PySem PySem.Spec PyProof.Rows L2
section
variable {P : Program} {w : World} {K : PySem.W.Frag} {mg : Str → Option Value} {base : Heap}
theorem has_law_draw (B : Blt mg) (d : DefOf K mg "_law_draw" s_law_draw ["script", "source", "limit"])   : Has P w K mg base "_law_draw" ["script", "source", "limit"] 1 m_law_draw :=
  has_of (k := 0) (N := N_law_draw) d sc_law_draw fun cdv A outer s H E hr =>
  (mb_cons (ms_if (PW.pt (mw_and (mt_cmp (os_eq hr.units) (me_ix is_ix (me_var 1) me_int) me_int) (mw_and1 (mt_cmp (os_lt hr.units) (me_ix is_ix (me_var 1) me_int) (me_callB cs_len rfl B.b_len bb_len (ma_cons (me_var 0) ma_nil)))))) (mb_cons (ms_set (i := 3) sc_law_draw.nd (me_callB cs_abs rfl B.b_abs bb_abs (ma_cons (me_ix is_ix (me_var 0) (me_ix is_ix (me_var 1) me_int)) ma_nil)))
    (mb_cons (ms_sub sts_set (me_var 1) me_int (me_bin os_add (me_ix is_ix (me_var 1) me_int) me_int))
    (mb_cons (ms_if (mt_cmp (os_lt hr.units) (me_var 3) (me_bin os_pow me_int me_int)) (mb_cons (ms_set (i := 3) sc_law_draw.nd (me_bin os_mod (me_callTy cs_int rfl B.b_int bt_int (ma_cons (me_bin os_add (me_bin os_add (me_bin os_mul (me_var 3) me_int) (me_bin os_mul (me_ix is_ix (me_var 1) me_int) me_int)) (me_ix is_ix (me_var 1) me_int)) ma_nil)) me_int))
    (mb_one (ms_set (i := 3) sc_law_draw.nd (me_bin os_mod (me_callTy cs_int rfl B.b_int bt_int (ma_cons (me_bin os_add (me_bin os_add (me_bin os_mul (me_var 3) (me_var 3)) (me_bin os_mul (me_var 3) me_int)) (me_ix is_ix (me_var 1) me_int)) ma_nil)) me_int)))) mb_nil)
    (mb_one (ms_sub sts_set (me_var 1) me_int (me_var 3)))))) mb_nil)
    (mb_cons (ms_if (mt_cmp (os_gt hr.units) (me_ix is_ix (me_var 1) me_int) me_int) (mb_cons (ms_set (i := 4) sc_law_draw.nd (me_bin os_mod (me_callTy cs_int rfl B.b_int bt_int (ma_cons (me_ix is_ix (me_var 1) me_int) ma_nil)) (me_var 2)))
    (mb_cons (ms_sub sts_set (me_var 1) me_int (me_bin os_fdiv (me_ix is_ix (me_var 1) me_int) (me_var 2)))
    (mb_one (ms_ret (me_var 4))))) mb_nil)
    (mb_cons (ms_sub sts_set (me_var 1) me_int (me_bin os_mod (me_callTy cs_int rfl B.b_int bt_int (ma_cons (me_bin os_add (me_bin os_mul (me_ix is_ix (me_var 1) me_int) me_int) me_int) ma_nil)) me_int))
    (mb_one (ms_ret (me_bin os_mod (me_callTy cs_int rfl B.b_int bt_int (ma_cons (me_bin os_fdiv (me_ix is_ix (me_var 1) me_int) me_int) ma_nil)) (me_var 2)))))))
end
end PL
/-! printed by gen.py: _law_name is worth its evaluator -/
namespace PL
open PySem PySem.Spec PyProof.Rows L2
section
variable {P : Program} {w : World} {K : PySem.W.Frag} {mg : Str → Option Value} {base : Heap}
theorem has_law_name (B : Blt mg) (d : DefOf K mg "_law_name" s_law_name ["script", "source", "used"])  (h_law_draw : Has P w K mg base "_law_draw" ["script", "source", "limit"] 1 m_law_draw) : Has P w K mg base "_law_name" ["script", "source", "used"] 2 m_law_name :=
  has_of (k := 1) (N := N_law_name) d sc_law_name fun cdv A outer s H E hr =>
  (mb_cons (ms_set (i := 3) sc_law_name.nd me_str)
    (mb_cons (ms_set (i := 4) sc_law_name.nd (me_bin os_add (me_var 3) me_str))
    (mb_cons (ms_set (i := 5) sc_law_name.nd (me_ix is_ix (me_var 3) (me_callH h_law_draw (hr.mono (by decide)) (ma_cons (me_var 0) (ma_cons (me_var 1) (ma_cons me_int ma_nil))))))
    (mb_cons (ms_for PassesOwn.never rfl (mi_range1 rfl B.b_range (me_callH h_law_draw (hr.mono (by decide)) (ma_cons (me_var 0) (ma_cons (me_var 1) (ma_cons me_int ma_nil))))) (mg_one (i := 6) sc_law_name.nd)
    (mb_one (ms_set (i := 5) sc_law_name.nd (me_bin os_add (me_var 5) (me_ix is_ix (me_var 4) (me_callH h_law_draw (hr.mono (by decide)) (ma_cons (me_var 0) (ma_cons (me_var 1) (ma_cons me_int ma_nil)))))))))
    (mb_cons (ms_if (mt_cmp (os_eq hr.units) (me_callH h_law_draw (hr.mono (by decide)) (ma_cons (me_var 0) (ma_cons (me_var 1) (ma_cons me_int ma_nil)))) me_int) (mb_one (ms_set (i := 5) sc_law_name.nd (me_ix is_ix (me_lst (ma_cons me_str (ma_cons me_str (ma_cons me_str (ma_cons me_str (ma_cons me_str (ma_cons me_str ma_nil))))))) (me_callH h_law_draw (hr.mono (by decide)) (ma_cons (me_var 0) (ma_cons (me_var 1) (ma_cons me_int ma_nil))))))) mb_nil)
    (mb_cons (ms_set (i := 7) sc_law_name.nd (me_var 5))
    (mb_cons (ms_for PassesOwn.never rfl (mi_range1 rfl B.b_range (me_bin os_add (me_callB cs_len rfl B.b_len bb_len (ma_cons (me_var 2) ma_nil)) me_int)) (mg_one (i := 6) sc_law_name.nd)
    (mb_one (ms_if (mt_cmp (os_in hr.units) (me_var 5) (me_var 2)) (mb_one (ms_set (i := 5) sc_law_name.nd (me_bin os_add (me_var 7) (me_callTy cs_str rfl B.b_str bt_str (ma_cons (me_var 6) ma_nil))))) mb_nil)))
    (mb_one (ms_ret (me_var 5))))))))))
end
end PL
/-! printed by gen.py: _law_gcd is worth its evaluator -/
namespace PL
open PySem PySem.Spec PyProof.Rows L2
section
variable {P : Program} {w : World} {K : PySem.W.Frag} {mg : Str → Option Value} {base : Heap}
theorem has_law_gcd (B : Blt mg) (d : DefOf K mg "_law_gcd" s_law_gcd ["a", "b"])   : Has P w K mg base "_law_gcd" ["a", "b"] 1 m_law_gcd :=
  has_of (k := 0) (N := N_law_gcd) d sc_law_gcd fun cdv A outer s H E hr =>
  (mb_cons (ms_for PassesOwn.never rfl (mi_range1 rfl B.b_range (me_bin os_add (me_bin os_mul me_int (me_bits (me_callTy cs_int rfl B.b_int bt_int (ma_cons (me_var 1) ma_nil)))) me_int)) (mg_one (i := 2) sc_law_gcd.nd)
    (mb_cons (ms_if (mt_cmp (os_eq hr.units) (me_var 1) me_int) (mb_one (ms_ret (me_var 0))) mb_nil)
    (mb_one (ms_par (i := 0) (j := 1) rfl sc_law_gcd.nd (by decide) (ma_cons (me_var 1) (ma_cons (me_bin os_mod (me_callTy cs_int rfl B.b_int bt_int (ma_cons (me_var 0) ma_nil)) (me_var 1)) ma_nil))))))
    (mb_one (ms_ret (me_var 0))))
end
end PL
/-! printed by gen.py: _law_reduced is worth its evaluator -/
namespace PL
open PySem PySem.Spec PyProof.Rows L2
section
variable {P : Program} {w : World} {K : PySem.W.Frag} {mg : Str → Option Value} {base : Heap}
theorem has_law_reduced (B : Blt mg) (d : DefOf K mg "_law_reduced" s_law_reduced ["weights"])  (h_law_gcd : Has P w K mg base "_law_gcd" ["a", "b"] 1 m_law_gcd) : Has P w K mg base "_law_reduced" ["weights"] 2 m_law_reduced :=
  has_of (k := 1) (N := N_law_reduced) d sc_law_reduced fun cdv A outer s H E hr =>
  (mb_cons (ms_set (i := 1) sc_law_reduced.nd me_int)
    (mb_cons (ms_for PassesOwn.never rfl (mi_val (me_var 0)) (mg_one (i := 2) sc_law_reduced.nd)
    (mb_one (ms_set (i := 1) sc_law_reduced.nd (me_callH h_law_gcd (hr.mono (by decide)) (ma_cons (me_var 2) (ma_cons (me_var 1) ma_nil))))))
    (mb_cons (ms_if (mt_cmp (os_eq hr.units) (me_var 1) me_int) (mb_one (ms_ret (me_callTy cs_tuple rfl B.b_tuple bt_tuple (ma_cons (me_var 0) ma_nil)))) mb_nil)
    (mb_one (ms_ret (me_callTy cs_tuple rfl B.b_tuple bt_tuple (ma_cons (me_compG false (own := [("weight", 2)]) rfl sc_law_reduced.nd (mi_val (me_var 0)) (blkOk_by (own := [("weight", 2)]) (N := N_law_reduced) (sc := defScope s_law_reduced) (by decide +kernel)) (fun _ _ _ _ _ => (mg_one (i := 2) sc_law_reduced.nd)) (fun _ _ _ _ _ => mts_nil) (fun _ _ _ _ _ => (me_bin os_fdiv (me_var 2) (me_var 1)))) ma_nil)))))))
end
end PL
/-! printed by gen.py: _law_sets is worth its evaluator -/
namespace PL
open PySem PySem.Spec PyProof.Rows L2
section
variable {P : Program} {w : World} {K : PySem.W.Frag} {mg : Str → Option Value} {base : Heap}
theorem has_law_sets (B : Blt mg) (d : DefOf K mg "_law_sets" s_law_sets ["script", "source", "many", "most"])  (h_law_draw : Has P w K mg base "_law_draw" ["script", "source", "limit"] 1 m_law_draw) (h_law_name : Has P w K mg base "_law_name" ["script", "source", "used"] 2 m_law_name) (h_law_reduced : Has P w K mg base "_law_reduced" ["weights"] 2 m_law_reduced) : Has P w K mg base "_law_sets" ["script", "source", "many", "most"] 3 m_law_sets :=
  has_of (k := 2) (N := N_law_sets) d sc_law_sets fun cdv A outer s H E hr =>
  (mb_cons (ms_set (i := 4) sc_law_sets.nd (me_loc ma_nil))
    (mb_cons (ms_set (i := 5) sc_law_sets.nd (me_loc ma_nil))
    (mb_cons (ms_set (i := 6) sc_law_sets.nd (me_callH h_law_draw (hr.mono (by decide)) (ma_cons (me_var 0) (ma_cons (me_var 1) (ma_cons me_int ma_nil)))))
    (mb_cons (ms_for PassesOwn.never rfl (mi_range1 rfl B.b_range (me_bin os_sub (me_var 2) (me_bin os_mul (me_ix is_ix (me_lst (ma_cons me_int (ma_cons me_int (ma_cons me_int (ma_cons me_int ma_nil))))) (me_callH h_law_draw (hr.mono (by decide)) (ma_cons (me_var 0) (ma_cons (me_var 1) (ma_cons me_int ma_nil))))) (me_callH h_law_draw (hr.mono (by decide)) (ma_cons (me_var 0) (ma_cons (me_var 1) (ma_cons (me_bin os_add (me_var 2) me_int) ma_nil))))))) (mg_one (i := 7) sc_law_sets.nd)
    (mb_cons (ms_set (i := 8) sc_law_sets.nd (me_ix is_ix (me_lst (ma_cons me_int (ma_cons me_int (ma_cons me_int (ma_cons me_int (ma_cons me_int (ma_cons me_int (ma_cons me_int (ma_cons me_int ma_nil))))))))) (me_callH h_law_draw (hr.mono (by decide)) (ma_cons (me_var 0) (ma_cons (me_var 1) (ma_cons me_int ma_nil))))))
    (mb_cons (ms_if (mt_cmp (os_gt hr.units) (me_var 8) (me_var 3)) (mb_one (ms_set (i := 8) sc_law_sets.nd me_int)) mb_nil)
    (mb_cons (ms_set (i := 3) sc_law_sets.nd (me_bin os_fdiv (me_var 3) (me_var 8)))
    (mb_cons (ms_set (i := 9) sc_law_sets.nd (me_ix is_ix (me_lst (ma_cons (me_bin os_mod (me_callTy cs_int rfl B.b_int bt_int (ma_cons (me_bin os_add (me_var 6) (me_var 7)) ma_nil)) me_int) (ma_cons (me_bin os_mod (me_callTy cs_int rfl B.b_int bt_int (ma_cons (me_bin os_add (me_var 6) (me_var 7)) ma_nil)) me_int) (ma_cons me_int (ma_cons me_int ma_nil))))) (me_callH h_law_draw (hr.mono (by decide)) (ma_cons (me_var 0) (ma_cons (me_var 1) (ma_cons me_int ma_nil))))))
    (mb_cons (ms_setCompG false (i := 10) (own := [("j", 12)]) rfl sc_law_sets.nd (mi_range1 rfl B.b_range (me_var 8)) (blkOk_by (own := [("j", 12)]) (N := N_law_sets) (sc := defScope s_law_sets) (by decide +kernel)) (fun _ _ _ _ _ => (mg_one (i := 12) sc_law_sets.nd)) (fun _ _ _ _ _ => mts_nil) (fun _ _ _ _ _ => me_int))
    (mb_cons (ms_if (mt_cmp (os_eq hr.units) (me_var 9) me_int) (mb_one (ms_setCompG false (i := 10) (own := [("j", 12)]) rfl sc_law_sets.nd (mi_range1 rfl B.b_range (me_var 8)) (blkOk_by (own := [("j", 12)]) (N := N_law_sets) (sc := defScope s_law_sets) (by decide +kernel)) (fun _ _ _ _ _ => (mg_one (i := 12) sc_law_sets.nd)) (fun _ _ _ _ _ => mts_nil) (fun _ _ _ _ _ => (me_bin os_add me_int (me_callH h_law_draw (hr.mono (by decide)) (ma_cons (me_var 0) (ma_cons (me_var 1) (ma_cons me_int ma_nil)))))))) mb_nil)
    (mb_cons (ms_set (i := 11) sc_law_sets.nd (me_callH h_law_name (hr.mono (by decide)) (ma_cons (me_var 0) (ma_cons (me_var 1) (ma_cons (me_var 5) ma_nil)))))
    (mb_cons (ms_expr (me_bm mts_append PySem.F.plainAttrs_list PySem.F.slot_list_append PySem.F.type_list_append (me_var 5) (ma_cons (me_var 11) ma_nil)))
    (mb_one (ms_expr (me_bm mts_append PySem.F.plainAttrs_list PySem.F.slot_list_append PySem.F.type_list_append (me_var 4) (ma_cons (me_tup (ma_cons (me_var 11) (ma_cons (me_var 9) (ma_cons (me_callH h_law_reduced (hr.mono (by decide)) (ma_cons (me_var 10) ma_nil)) ma_nil)))) ma_nil)))))))))))))
    (mb_one (ms_ret (me_callTy cs_tuple rfl B.b_tuple bt_tuple (ma_cons (me_callB (cs_sorted hr.units) rfl B.b_sorted bb_sorted (ma_cons (me_var 4) ma_nil)) ma_nil))))))))
end
end PL
/-! printed by gen.py: _law_tree is worth its evaluator -/
namespace PL
open PySem PySem.Spec PyProof.Rows L2
section
variable {P : Program} {w : World} {K : PySem.W.Frag} {mg : Str → Option Value} {base : Heap}
theorem has_law_tree (B : Blt mg) (d : DefOf K mg "_law_tree" s_law_tree ["script", "source", "free", "outcomes", "room", "wish"])  (h_law_draw : Has P w K mg base "_law_draw" ["script", "source", "limit"] 1 m_law_draw) : Has P w K mg base "_law_tree" ["script", "source", "free", "outcomes", "room", "wish"] 62 m_law_tree :=
  has_rec (k := 2) (n := 60) (N := N_law_tree) d sc_law_tree (by decide) fun n HS cdv A outer s H E hr =>
  (mb_cons (ms_sub sts_set (me_var 4) me_int (me_bin os_sub (me_ix is_ix (me_var 4) me_int) me_int))
    (mb_cons (ms_set (i := 6) sc_law_tree.nd (me_and (me_cmp (os_eq hr.units) (me_callH h_law_draw (hr.mono (by omega)) (ma_cons (me_var 0) (ma_cons (me_var 1) (ma_cons me_int ma_nil)))) me_int) (me_one (me_cmp os_is (me_var 5) me_non))))
    (mb_cons (ms_if (PW.pt (mw_or (mt_cmp (os_eq hr.units) (me_callB cs_len rfl B.b_len bb_len (ma_cons (me_var 2) ma_nil)) me_int) (mw_or (mt_cmp (os_lt hr.units) (me_ix is_ix (me_var 4) me_int) me_int) (mw_or1 (mt_val (me_var 6)))))) (mb_one (ms_ret (me_ix is_ix (me_var 3) (me_callH h_law_draw (hr.mono (by omega)) (ma_cons (me_var 0) (ma_cons (me_var 1) (ma_cons (me_callB cs_len rfl B.b_len bb_len (ma_cons (me_var 3) ma_nil)) ma_nil))))))) mb_nil)
    (mb_cons (ms_set (i := 7) sc_law_tree.nd (me_ix is_ix (me_var 2) (me_callH h_law_draw (hr.mono (by omega)) (ma_cons (me_var 0) (ma_cons (me_var 1) (ma_cons (me_callB cs_len rfl B.b_len bb_len (ma_cons (me_var 2) ma_nil)) ma_nil))))))
    (mb_cons (ms_if (mt_cmp os_isNot (me_var 5) me_non) (mb_one (ms_set (i := 7) sc_law_tree.nd (me_var 5))) mb_nil)
    (mb_cons (ms_setCompG false (i := 8) (own := [("other", 13)]) rfl sc_law_tree.nd (mi_val (me_var 2)) (blkOk_by (own := [("other", 13)]) (N := N_law_tree) (sc := defScope s_law_tree) (by decide +kernel)) (fun _ _ _ _ _ => (mg_one (i := 13) sc_law_tree.nd)) (fun _ _ _ _ _ => (mts_one (mt_cmp (os_ne hr.units) (me_ix is_ix (me_var 13) me_int) (me_ix is_ix (me_var 7) me_int)))) (fun _ _ _ _ _ => (me_var 13)))
    (mb_cons (ms_set (i := 9) sc_law_tree.nd (me_callH h_law_draw (hr.mono (by omega)) (ma_cons (me_var 0) (ma_cons (me_var 1) (ma_cons me_int ma_nil)))))
    (mb_cons (ms_set (i := 10) sc_law_tree.nd me_non)
    (mb_cons (ms_if (PW.pt (mw_and (mt_cmp (os_gt hr.units) (me_var 9) me_int) (mw_and1 (mt_cmp (os_gt hr.units) (me_callB cs_len rfl B.b_len bb_len (ma_cons (me_var 8) ma_nil)) me_int)))) (mb_one (ms_set (i := 10) sc_law_tree.nd (me_ix is_ix (me_var 8) (me_callH h_law_draw (hr.mono (by omega)) (ma_cons (me_var 0) (ma_cons (me_var 1) (ma_cons (me_callB cs_len rfl B.b_len bb_len (ma_cons (me_var 8) ma_nil)) ma_nil))))))) mb_nil)
    (mb_cons (ms_set (i := 11) sc_law_tree.nd (me_loc ma_nil))
    (mb_cons (ms_for PassesOwn.never rfl (mi_range1 rfl B.b_range (me_callB cs_len rfl B.b_len bb_len (ma_cons (me_ix is_ix (me_var 7) me_int) ma_nil))) (mg_one (i := 12) sc_law_tree.nd)
    (mb_one (ms_if (PW.pt (mw_and (mt_cmp (os_gt hr.units) (me_var 12) me_int) (mw_and (mt_cmp os_is (me_var 5) me_non) (mw_and1 (PW.pt (mw_or (mt_cmp (os_eq hr.units) (me_var 9) me_int) (mw_or1 (PW.pt (mw_and (mt_cmp (os_eq hr.units) (me_var 9) me_int) (mw_and1 (mt_cmp (os_eq hr.units) (me_callH h_law_draw (hr.mono (by omega)) (ma_cons (me_var 0) (ma_cons (me_var 1) (ma_cons me_int ma_nil)))) me_int))))))))))) (mb_one (ms_expr (me_bm mts_append PySem.F.plainAttrs_list PySem.F.slot_list_append PySem.F.type_list_append (me_var 11) (ma_cons (me_ix is_ix (me_var 11) (me_bin os_sub (me_var 12) me_int)) ma_nil)))) (mb_one (ms_expr (me_bm mts_append PySem.F.plainAttrs_list PySem.F.slot_list_append PySem.F.type_list_append (me_var 11) (ma_cons (me_callH HS hr (ma_cons (me_var 0) (ma_cons (me_var 1) (ma_cons (me_var 8) (ma_cons (me_var 3) (ma_cons (me_var 4) (ma_cons (me_var 10) ma_nil))))))) ma_nil)))))))
    (mb_one (ms_ret (me_tup (ma_cons (me_ix is_ix (me_var 7) me_int) (ma_cons (me_callTy cs_tuple rfl B.b_tuple bt_tuple (ma_cons (me_var 11) ma_nil)) ma_nil))))))))))))))))
end
end PL
/-! printed by gen.py: _law_game is worth its evaluator -/
namespace PL
open PySem PySem.Spec PyProof.Rows L2
section
variable {P : Program} {w : World} {K : PySem.W.Frag} {mg : Str → Option Value} {base : Heap}
theorem has_law_game (B : Blt mg) (d : DefOf K mg "_law_game" s_law_game ["script", "source", "many", "most", "nodes"])  (h_law_draw : Has P w K mg base "_law_draw" ["script", "source", "limit"] 1 m_law_draw) (h_law_name : Has P w K mg base "_law_name" ["script", "source", "used"] 2 m_law_name) (h_law_sets : Has P w K mg base "_law_sets" ["script", "source", "many", "most"] 3 m_law_sets) (h_law_tree : Has P w K mg base "_law_tree" ["script", "source", "free", "outcomes", "room", "wish"] 62 m_law_tree) : Has P w K mg base "_law_game" ["script", "source", "many", "most", "nodes"] 63 m_law_game :=
  has_of (k := 62) (N := N_law_game) d sc_law_game fun cdv A outer s H E hr =>
  (mb_cons (ms_set (i := 5) sc_law_game.nd (me_callH h_law_sets (hr.mono (by decide)) (ma_cons (me_var 0) (ma_cons (me_var 1) (ma_cons (me_var 2) (ma_cons (me_var 3) ma_nil))))))
    (mb_cons (ms_set (i := 6) sc_law_game.nd (me_loc ma_nil))
    (mb_cons (ms_for PassesOwn.never rfl (mi_range1 rfl B.b_range (me_ix is_ix (me_lst (ma_cons me_int (ma_cons me_int (ma_cons me_int (ma_cons me_int (ma_cons me_int (ma_cons me_int (ma_cons me_int (ma_cons me_int (ma_cons me_int (ma_cons me_int ma_nil))))))))))) (me_callH h_law_draw (hr.mono (by decide)) (ma_cons (me_var 0) (ma_cons (me_var 1) (ma_cons me_int ma_nil)))))) (mg_one (i := 7) sc_law_game.nd)
    (mb_one (ms_expr (me_bm mts_append PySem.F.plainAttrs_list PySem.F.slot_list_append PySem.F.type_list_append (me_var 6) (ma_cons (me_callH h_law_name (hr.mono (by decide)) (ma_cons (me_var 0) (ma_cons (me_var 1) (ma_cons (me_var 6) ma_nil)))) ma_nil)))))
    (mb_cons (ms_set (i := 8) sc_law_game.nd me_non)
    (mb_cons (ms_for PassesOwn.never rfl (mi_val (me_var 5)) (mg_one (i := 9) sc_law_game.nd)
    (mb_one (ms_if (PW.pt (mw_or (mt_cmp os_is (me_var 8) me_non) (mw_or (mt_cmp (os_eq hr.units) (me_callB cs_len rfl B.b_len bb_len (ma_cons (me_ix is_ix (me_var 8) me_int) ma_nil)) me_int) (mw_or1 (mt_cmp (os_eq hr.units) (me_callH h_law_draw (hr.mono (by decide)) (ma_cons (me_var 0) (ma_cons (me_var 1) (ma_cons me_int ma_nil)))) me_int))))) (mb_one (ms_set (i := 8) sc_law_game.nd (me_var 9))) mb_nil)))
    (mb_one (ms_ret (me_tup (ma_cons (me_var 5) (ma_cons (me_callH h_law_tree (hr.mono (by decide)) (ma_cons (me_var 0) (ma_cons (me_var 1) (ma_cons (me_callTy cs_list rfl B.b_list bt_list (ma_cons (me_var 5) ma_nil)) (ma_cons (me_var 6) (ma_cons (me_loc (ma_cons (me_var 4) ma_nil)) (ma_cons (me_var 8) ma_nil))))))) ma_nil))))))))))
end
end PL
/-! printed by gen.py: _law_plain is worth its evaluator -/
namespace PL
open PySem PySem.Spec PyProof.Rows L2
section
variable {P : Program} {w : World} {K : PySem.W.Frag} {mg : Str → Option Value} {base : Heap}
theorem has_law_plain (B : Blt mg) (d : DefOf K mg "_law_plain" s_law_plain ["answer"])   : Has P w K mg base "_law_plain" ["answer"] 61 m_law_plain :=
  has_rec (k := 1) (n := 60) (N := N_law_plain) d sc_law_plain (by decide) fun n HS cdv A outer s H E hr =>
  (mb_cons (ms_if (mt_val (me_callB cs_isi rfl B.b_isinstance bb_isinstance (ma_cons (me_var 0) (ma_cons (me_bval (v := .ty "tuple") rfl B.b_tuple bt_tuple rfl) ma_nil)))) (mb_one (ms_ret (me_cmp (os_eq hr.units) (me_callB cs_len rfl B.b_len bb_len (ma_cons (me_compG false (own := [("item", 1)]) rfl sc_law_plain.nd (mi_val (me_var 0)) (blkOk_by (own := [("item", 1)]) (N := N_law_plain) (sc := defScope s_law_plain) (by decide +kernel)) (fun _ _ _ _ _ => (mg_one (i := 1) sc_law_plain.nd)) (fun _ _ _ _ _ => (mts_one (mt_not (mt_val (me_callH HS hr (ma_cons (me_var 1) ma_nil)))))) (fun _ _ _ _ _ => (me_var 1))) ma_nil)) me_int))) mb_nil)
    (mb_one (ms_ret (me_and (me_not (me_callB cs_isi rfl B.b_isinstance bb_isinstance (ma_cons (me_var 0) (ma_cons (me_bval (v := .ty "bool") rfl B.b_bool bt_bool rfl) ma_nil)))) (me_one (me_callB cs_isi rfl B.b_isinstance bb_isinstance (ma_cons (me_var 0) (ma_cons (me_tup (ma_cons (me_bval (v := .ty "str") rfl B.b_str bt_str rfl) (ma_cons (me_bval (v := .ty "int") rfl B.b_int bt_int rfl) ma_nil))) ma_nil))))))))
end
end PL
/-! printed by gen.py: _law_bad_name is worth its evaluator -/
namespace PL
open PySem PySem.Spec PyProof.Rows L2
section
variable {P : Program} {w : World} {K : PySem.W.Frag} {mg : Str → Option Value} {base : Heap}
theorem has_law_bad_name (B : Blt mg) (d : DefOf K mg "_law_bad_name" s_law_bad_name ["script", "source"])  (h_law_draw : Has P w K mg base "_law_draw" ["script", "source", "limit"] 1 m_law_draw) : Has P w K mg base "_law_bad_name" ["script", "source"] 2 m_law_bad_name :=
  has_of (k := 1) (N := N_law_bad_name) d sc_law_bad_name fun cdv A outer s H E hr =>
  (mb_cons (ms_set (i := 2) sc_law_bad_name.nd (me_lst (ma_cons me_str (ma_cons me_str (ma_cons me_str (ma_cons me_str (ma_cons me_str (ma_cons me_str (ma_cons me_str (ma_cons me_str (ma_cons me_str (ma_cons me_str (ma_cons me_str (ma_cons me_str (ma_cons me_str ma_nil)))))))))))))))
    (mb_one (ms_ret (me_ix is_ix (me_var 2) (me_callH h_law_draw (hr.mono (by decide)) (ma_cons (me_var 0) (ma_cons (me_var 1) (ma_cons (me_callB cs_len rfl B.b_len bb_len (ma_cons (me_var 2) ma_nil)) ma_nil))))))))
end
end PL
/-! printed by gen.py: _law_spoilt_rows is worth its evaluator -/
namespace PL
open PySem PySem.Spec PyProof.Rows L2
section
variable {P : Program} {w : World} {K : PySem.W.Frag} {mg : Str → Option Value} {base : Heap}
theorem has_law_spoilt_rows (B : Blt mg) (d : DefOf K mg "_law_spoilt_rows" s_law_spoilt_rows ["script", "source", "rows"])  (h_law_draw : Has P w K mg base "_law_draw" ["script", "source", "limit"] 1 m_law_draw) (h_law_bad_name : Has P w K mg base "_law_bad_name" ["script", "source"] 2 m_law_bad_name) : Has P w K mg base "_law_spoilt_rows" ["script", "source", "rows"] 3 m_law_spoilt_rows :=
  has_of (k := 2) (N := N_law_spoilt_rows) d sc_law_spoilt_rows fun cdv A outer s H E hr =>
  (mb_cons (ms_set (i := 3) sc_law_spoilt_rows.nd (me_callH h_law_draw (hr.mono (by decide)) (ma_cons (me_var 0) (ma_cons (me_var 1) (ma_cons (me_callB cs_len rfl B.b_len bb_len (ma_cons (me_var 2) ma_nil)) ma_nil)))))
    (mb_cons (ms_tg (mg_tup rfl (mgs_cons (i := 5) sc_law_spoilt_rows.nd (mgs_cons (i := 6) sc_law_spoilt_rows.nd (mgs_cons (i := 7) sc_law_spoilt_rows.nd mgs_nil)))) (me_ix is_ix (me_var 2) (me_var 3)))
    (mb_cons (ms_set (i := 4) sc_law_spoilt_rows.nd (me_callH h_law_draw (hr.mono (by decide)) (ma_cons (me_var 0) (ma_cons (me_var 1) (ma_cons me_int ma_nil)))))
    (mb_cons (ms_if (mt_cmp (os_eq hr.units) (me_var 4) me_int) (mb_one (ms_set (i := 5) sc_law_spoilt_rows.nd (me_callH h_law_bad_name (hr.mono (by decide)) (ma_cons (me_var 0) (ma_cons (me_var 1) ma_nil))))) mb_nil)
    (mb_cons (ms_if (mt_cmp (os_eq hr.units) (me_var 4) me_int) (mb_cons (ms_set (i := 8) sc_law_spoilt_rows.nd (me_callH h_law_draw (hr.mono (by decide)) (ma_cons (me_var 0) (ma_cons (me_var 1) (ma_cons (me_callB cs_len rfl B.b_len bb_len (ma_cons (me_var 2) ma_nil)) ma_nil)))))
    (mb_cons (ms_set (i := 9) sc_law_spoilt_rows.nd (me_callTy cs_listLoc rfl B.b_list bt_list (ma_cons (me_var 2) ma_nil)))
    (mb_cons (ms_sub sts_set (me_var 9) (me_var 3) (me_ix is_ix (me_var 2) (me_var 8)))
    (mb_cons (ms_if (mt_cmp (os_eq hr.units) (me_callH h_law_draw (hr.mono (by decide)) (ma_cons (me_var 0) (ma_cons (me_var 1) (ma_cons me_int ma_nil)))) me_int) (mb_one (ms_sub sts_set (me_var 9) (me_var 8) (me_ix is_ix (me_var 2) (me_var 3)))) mb_nil)
    (mb_one (ms_ret (me_callTy cs_tuple rfl B.b_tuple bt_tuple (ma_cons (me_var 9) ma_nil)))))))) mb_nil)
    (mb_cons (ms_if (mt_cmp (os_eq hr.units) (me_var 4) me_int) (mb_one (ms_set (i := 6) sc_law_spoilt_rows.nd (me_ix is_ix (me_lst (ma_cons me_int (ma_cons (me_un us_neg me_int) (ma_cons me_int (ma_cons (me_bin os_pow me_int me_int) (ma_cons me_int (ma_cons me_int ma_nil))))))) (me_callH h_law_draw (hr.mono (by decide)) (ma_cons (me_var 0) (ma_cons (me_var 1) (ma_cons me_int ma_nil))))))) mb_nil)
    (mb_cons (ms_if (mt_cmp (os_eq hr.units) (me_var 4) me_int) (mb_cons (ms_set (i := 10) sc_law_spoilt_rows.nd (me_lst (ma_cons (me_tup ma_nil) (ma_cons (me_tup (ma_cons me_int ma_nil)) (ma_cons (me_tup (ma_cons me_int ma_nil)) (ma_cons (me_tup (ma_cons me_int (ma_cons me_int ma_nil))) (ma_cons (me_tup (ma_cons (me_un us_neg me_int) (ma_cons me_int ma_nil))) (ma_cons (me_tup (ma_cons me_int (ma_cons me_int ma_nil))) (ma_cons (me_tup (ma_cons me_int (ma_cons me_int ma_nil))) (ma_cons (me_tup (ma_cons me_int (ma_cons me_int (ma_cons me_int ma_nil)))) (ma_cons (me_bin os_mul (me_tup (ma_cons me_int ma_nil)) me_int) (ma_cons (me_bin os_mul (me_tup (ma_cons me_int ma_nil)) me_int) (ma_cons (me_tup (ma_cons me_int (ma_cons me_int ma_nil))) ma_nil)))))))))))))
    (mb_cons (ms_set (i := 10) sc_law_spoilt_rows.nd (me_bin os_add (me_var 10) (me_lst (ma_cons (me_tup (ma_cons (me_bin os_pow me_int me_int) (ma_cons (me_bin os_mul me_int (me_bin os_pow me_int me_int)) ma_nil))) (ma_cons (me_tup (ma_cons (me_bin os_pow me_int me_int) (ma_cons (me_bin os_add (me_bin os_pow me_int me_int) me_int) ma_nil))) ma_nil)))))
    (mb_one (ms_set (i := 7) sc_law_spoilt_rows.nd (me_ix is_ix (me_var 10) (me_callH h_law_draw (hr.mono (by decide)) (ma_cons (me_var 0) (ma_cons (me_var 1) (ma_cons (me_callB cs_len rfl B.b_len bb_len (ma_cons (me_var 10) ma_nil)) ma_nil))))))))) mb_nil)
    (mb_cons (ms_if (mt_cmp (os_eq hr.units) (me_var 4) me_int) (mb_one (ms_set (i := 7) sc_law_spoilt_rows.nd (me_bin os_add (me_var 7) (me_tup (ma_cons (me_bin os_add me_int (me_callH h_law_draw (hr.mono (by decide)) (ma_cons (me_var 0) (ma_cons (me_var 1) (ma_cons me_int ma_nil))))) ma_nil))))) mb_nil)
    (mb_one (ms_ret (me_bin os_add (me_bin os_add (me_sl ss_sl (me_var 2) mo_none (mo_some (me_var 3))) (me_tup (ma_cons (me_tup (ma_cons (me_var 5) (ma_cons (me_var 6) (ma_cons (me_var 7) ma_nil)))) ma_nil))) (me_sl ss_sl (me_var 2) (mo_some (me_bin os_add (me_var 3) me_int)) mo_none))))))))))))
end
end PL
/-! printed by gen.py: _law_spoilt_tree is worth its evaluator -/
namespace PL
open PySem PySem.Spec PyProof.Rows L2
section
variable {P : Program} {w : World} {K : PySem.W.Frag} {mg : Str → Option Value} {base : Heap}
theorem has_law_spoilt_tree (B : Blt mg) (d : DefOf K mg "_law_spoilt_tree" s_law_spoilt_tree ["script", "source", "rows", "tree", "names", "left"])  (h_law_draw : Has P w K mg base "_law_draw" ["script", "source", "limit"] 1 m_law_draw) (h_law_name : Has P w K mg base "_law_name" ["script", "source", "used"] 2 m_law_name) (h_law_bad_name : Has P w K mg base "_law_bad_name" ["script", "source"] 2 m_law_bad_name) : Has P w K mg base "_law_spoilt_tree" ["script", "source", "rows", "tree", "names", "left"] 63 m_law_spoilt_tree :=
  has_rec (k := 3) (n := 60) (N := N_law_spoilt_tree) d sc_law_spoilt_tree (by decide) fun n HS cdv A outer s H E hr =>
  (mb_cons (ms_sub sts_set (me_var 5) me_int (me_bin os_sub (me_ix is_ix (me_var 5) me_int) me_int))
    (mb_cons (ms_if (mt_cmp (os_eq hr.units) (me_ix is_ix (me_var 5) me_int) me_int) (mb_cons (ms_set (i := 7) sc_law_spoilt_tree.nd (me_callH h_law_draw (hr.mono (by omega)) (ma_cons (me_var 0) (ma_cons (me_var 1) (ma_cons me_int ma_nil)))))
    (mb_cons (ms_if (PW.pt (mw_and (mt_cmp (os_eq hr.units) (me_var 7) me_int) (mw_and1 (mt_not (mt_val (me_callB cs_isi rfl B.b_isinstance bb_isinstance (ma_cons (me_var 3) (ma_cons (me_bval (v := .ty "str") rfl B.b_str bt_str rfl) ma_nil)))))))) (mb_one (ms_ret (me_tup (ma_cons (me_bin os_add (me_callH h_law_name (hr.mono (by omega)) (ma_cons (me_var 0) (ma_cons (me_var 1) (ma_cons (me_var 4) ma_nil)))) me_str) (ma_cons (me_ix is_ix (me_var 3) me_int) ma_nil))))) mb_nil)
    (mb_cons (ms_if (PW.pt (mw_and (mt_cmp (os_eq hr.units) (me_var 7) me_int) (mw_and1 (mt_not (mt_val (me_callB cs_isi rfl B.b_isinstance bb_isinstance (ma_cons (me_var 3) (ma_cons (me_bval (v := .ty "str") rfl B.b_str bt_str rfl) ma_nil)))))))) (mb_one (ms_ret (me_tup (ma_cons (me_ix is_ix (me_var 3) me_int) (ma_cons (me_bin os_add (me_ix is_ix (me_var 3) me_int) (me_sl ss_sl (me_ix is_ix (me_var 3) me_int) mo_none (mo_some me_int))) ma_nil))))) mb_nil)
    (mb_cons (ms_if (PW.pt (mw_and (mt_cmp (os_eq hr.units) (me_var 7) me_int) (mw_and1 (mt_not (mt_val (me_callB cs_isi rfl B.b_isinstance bb_isinstance (ma_cons (me_var 3) (ma_cons (me_bval (v := .ty "str") rfl B.b_str bt_str rfl) ma_nil)))))))) (mb_one (ms_ret (me_tup (ma_cons (me_ix is_ix (me_var 3) me_int) (ma_cons (me_sl ss_sl (me_ix is_ix (me_var 3) me_int) mo_none (mo_some (me_un us_neg me_int))) ma_nil))))) mb_nil)
    (mb_cons (ms_if (PW.pt (mw_and (mt_cmp (os_eq hr.units) (me_var 7) me_int) (mw_and1 (mt_cmp (os_gt hr.units) (me_callB cs_len rfl B.b_len bb_len (ma_cons (me_var 4) ma_nil)) me_int)))) (mb_one (ms_ret (me_tup (ma_cons (me_ix is_ix (me_var 4) (me_callH h_law_draw (hr.mono (by omega)) (ma_cons (me_var 0) (ma_cons (me_var 1) (ma_cons (me_callB cs_len rfl B.b_len bb_len (ma_cons (me_var 4) ma_nil)) ma_nil))))) (ma_cons (me_tup (ma_cons (me_var 3) (ma_cons (me_var 3) ma_nil))) ma_nil))))) mb_nil)
    (mb_one (ms_ret (me_callH h_law_bad_name (hr.mono (by omega)) (ma_cons (me_var 0) (ma_cons (me_var 1) ma_nil)))))))))) mb_nil)
    (mb_cons (ms_if (mt_val (me_callB cs_isi rfl B.b_isinstance bb_isinstance (ma_cons (me_var 3) (ma_cons (me_bval (v := .ty "str") rfl B.b_str bt_str rfl) ma_nil)))) (mb_one (ms_ret (me_var 3))) mb_nil)
    (mb_cons (ms_set (i := 6) sc_law_spoilt_tree.nd (me_bin os_add (me_var 4) (me_lst (ma_cons (me_ix is_ix (me_var 3) me_int) ma_nil))))
    (mb_one (ms_ret (me_tup (ma_cons (me_ix is_ix (me_var 3) me_int) (ma_cons (me_callTy cs_tuple rfl B.b_tuple bt_tuple (ma_cons (me_compG false (own := [("child", 8)]) rfl sc_law_spoilt_tree.nd (mi_val (me_ix is_ix (me_var 3) me_int)) (blkOk_by (own := [("child", 8)]) (N := N_law_spoilt_tree) (sc := defScope s_law_spoilt_tree) (by decide +kernel)) (fun _ _ _ _ _ => (mg_one (i := 8) sc_law_spoilt_tree.nd)) (fun _ _ _ _ _ => mts_nil) (fun _ _ _ _ _ => (me_callH HS hr (ma_cons (me_var 0) (ma_cons (me_var 1) (ma_cons (me_var 2) (ma_cons (me_var 8) (ma_cons (me_var 6) (ma_cons (me_var 5) ma_nil))))))))) ma_nil)) ma_nil)))))))))
end
end PL
/-! printed by gen.py: _law_is_name is worth its evaluator -/
namespace PL
open PySem PySem.Spec PyProof.Rows L2
section
variable {P : Program} {w : World} {K : PySem.W.Frag} {mg : Str → Option Value} {base : Heap}
theorem has_law_is_name (B : Blt mg) (d : DefOf K mg "_law_is_name" s_law_is_name ["word"])   : Has P w K mg base "_law_is_name" ["word"] 1 m_law_is_name :=
  has_of (k := 0) (N := N_law_is_name) d sc_law_is_name fun cdv A outer s H E hr =>
  (mb_cons (ms_set (i := 1) sc_law_is_name.nd me_str)
    (mb_cons (ms_if (PW.pt (mw_or (mt_not (mt_chain (os_le hr.units) (os_le hr.units) me_int (me_callB cs_len rfl B.b_len bb_len (ma_cons (me_var 0) ma_nil)) me_int)) (mw_or1 (mt_cmp (os_notIn hr.units) (me_ix is_ix (me_var 0) me_int) (me_var 1))))) (mb_one (ms_ret me_bl)) mb_nil)
    (mb_one (ms_ret (me_cmp (os_eq hr.units) (me_callB cs_len rfl B.b_len bb_len (ma_cons (me_compG false (own := [("sign", 2)]) rfl sc_law_is_name.nd (mi_val (me_var 0)) (blkOk_by (own := [("sign", 2)]) (N := N_law_is_name) (sc := defScope s_law_is_name) (by decide +kernel)) (fun _ _ _ _ _ => (mg_one (i := 2) sc_law_is_name.nd)) (fun _ _ _ _ _ => (mts_one (PW.pt (mw_and (mt_cmp (os_notIn hr.units) (me_var 2) (me_var 1)) (mw_and1 (mt_cmp (os_notIn hr.units) (me_var 2) me_str)))))) (fun _ _ _ _ _ => (me_var 2))) ma_nil)) me_int)))))
end
end PL
/-! printed by gen.py: _law_row_fault is worth its evaluator -/
namespace PL
open PySem PySem.Spec PyProof.Rows L2
section
variable {P : Program} {w : World} {K : PySem.W.Frag} {mg : Str → Option Value} {base : Heap}
theorem has_law_row_fault (B : Blt mg) (d : DefOf K mg "_law_row_fault" s_law_row_fault ["rows", "at"])  (h_law_gcd : Has P w K mg base "_law_gcd" ["a", "b"] 1 m_law_gcd) (h_law_is_name : Has P w K mg base "_law_is_name" ["word"] 1 m_law_is_name) : Has P w K mg base "_law_row_fault" ["rows", "at"] 2 m_law_row_fault :=
  has_of (k := 1) (N := N_law_row_fault) d sc_law_row_fault fun cdv A outer s H E hr =>
  (mb_cons (ms_tg (mg_tup rfl (mgs_cons (i := 4) sc_law_row_fault.nd (mgs_cons (i := 5) sc_law_row_fault.nd (mgs_cons (i := 6) sc_law_row_fault.nd mgs_nil)))) (me_ix is_ix (me_var 0) (me_var 1)))
    (mb_cons (ms_if (mt_not (mt_val (me_callH h_law_is_name (hr.mono (by decide)) (ma_cons (me_var 4) ma_nil)))) (mb_one (ms_ret me_str)) mb_nil)
    (mb_cons (ms_if (PW.pt (mw_and (mt_cmp (os_gt hr.units) (me_var 1) me_int) (mw_and1 (mt_cmp (os_ge hr.units) (me_ix is_ix (me_ix is_ix (me_var 0) (me_bin os_sub (me_var 1) me_int)) me_int) (me_var 4))))) (mb_one (ms_ret me_str)) mb_nil)
    (mb_cons (ms_if (PW.pt (mw_or (mt_cmp (os_lt hr.units) (me_var 5) me_int) (mw_or1 (mt_cmp (os_gt hr.units) (me_var 5) me_int)))) (mb_one (ms_ret me_str)) mb_nil)
    (mb_cons (ms_if (PW.pt (mw_or (mt_not (mt_chain (os_le hr.units) (os_le hr.units) me_int (me_callB cs_len rfl B.b_len bb_len (ma_cons (me_var 6) ma_nil)) me_int)) (mw_or (mt_cmp (os_lt hr.units) (me_callB (cs_min rfl hr.units) rfl B.b_min bb_min (ma_cons (me_var 6) ma_nil)) me_int) (mw_or1 (PW.pt (mw_and (mt_cmp (os_gt hr.units) (me_var 5) me_int) (mw_and1 (mt_cmp (os_gt hr.units) (me_callB (cs_max rfl hr.units) rfl B.b_max bb_max (ma_cons (me_var 6) ma_nil)) me_int)))))))) (mb_one (ms_ret me_str)) mb_nil)
    (mb_cons (ms_set (i := 2) sc_law_row_fault.nd me_int)
    (mb_cons (ms_for PassesOwn.never rfl (mi_val (me_var 6)) (mg_one (i := 3) sc_law_row_fault.nd)
    (mb_one (ms_set (i := 2) sc_law_row_fault.nd (me_callH h_law_gcd (hr.mono (by decide)) (ma_cons (me_var 3) (ma_cons (me_var 2) ma_nil))))))
    (mb_cons (ms_if (mt_cmp (os_ne hr.units) (me_var 2) me_int) (mb_one (ms_ret me_str)) mb_nil)
    (mb_one (ms_ret me_str))))))))))
end
end PL
/-! printed by gen.py: _law_node_fault is worth its evaluator -/
namespace PL
open PySem PySem.Spec PyProof.Rows L2
section
variable {P : Program} {w : World} {K : PySem.W.Frag} {mg : Str → Option Value} {base : Heap}
theorem has_law_node_fault (B : Blt mg) (d : DefOf K mg "_law_node_fault" s_law_node_fault ["rows", "tree", "path", "names"])  (h_law_is_name : Has P w K mg base "_law_is_name" ["word"] 1 m_law_is_name) : Has P w K mg base "_law_node_fault" ["rows", "tree", "path", "names"] 62 m_law_node_fault :=
  has_rec (k := 2) (n := 60) (N := N_law_node_fault) d sc_law_node_fault (by decide) fun n HS cdv A outer s H E hr =>
  (mb_cons (ms_if (mt_val (me_callB cs_isi rfl B.b_isinstance bb_isinstance (ma_cons (me_var 1) (ma_cons (me_bval (v := .ty "str") rfl B.b_str bt_str rfl) ma_nil)))) (mb_cons (ms_if (mt_val (me_callH h_law_is_name (hr.mono (by omega)) (ma_cons (me_var 1) ma_nil))) (mb_one (ms_ret me_non)) mb_nil)
    (mb_one (ms_ret (me_tup (ma_cons me_str (ma_cons (me_var 2) (ma_cons me_str ma_nil))))))) mb_nil)
    (mb_cons (ms_setCompG false (i := 4) (own := [("row", 7)]) rfl sc_law_node_fault.nd (mi_val (me_var 0)) (blkOk_by (own := [("row", 7)]) (N := N_law_node_fault) (sc := defScope s_law_node_fault) (by decide +kernel)) (fun _ _ _ _ _ => (mg_one (i := 7) sc_law_node_fault.nd)) (fun _ _ _ _ _ => (mts_one (mt_cmp (os_eq hr.units) (me_ix is_ix (me_var 7) me_int) (me_ix is_ix (me_var 1) me_int)))) (fun _ _ _ _ _ => (me_ix is_ix (me_var 7) me_int)))
    (mb_cons (ms_if (mt_cmp (os_eq hr.units) (me_callB cs_len rfl B.b_len bb_len (ma_cons (me_var 4) ma_nil)) me_int) (mb_one (ms_ret (me_tup (ma_cons me_str (ma_cons (me_var 2) (ma_cons me_str ma_nil)))))) mb_nil)
    (mb_cons (ms_if (mt_cmp (os_ne hr.units) (me_callB cs_len rfl B.b_len bb_len (ma_cons (me_ix is_ix (me_var 4) me_int) ma_nil)) (me_callB cs_len rfl B.b_len bb_len (ma_cons (me_ix is_ix (me_var 1) me_int) ma_nil))) (mb_one (ms_ret (me_tup (ma_cons me_str (ma_cons (me_var 2) (ma_cons me_str ma_nil)))))) mb_nil)
    (mb_cons (ms_if (mt_cmp (os_in hr.units) (me_ix is_ix (me_var 1) me_int) (me_var 3)) (mb_one (ms_ret (me_tup (ma_cons me_str (ma_cons (me_var 2) (ma_cons me_str ma_nil)))))) mb_nil)
    (mb_cons (ms_for PassesOwn.never rfl (mi_range1 rfl B.b_range (me_callB cs_len rfl B.b_len bb_len (ma_cons (me_ix is_ix (me_var 1) me_int) ma_nil))) (mg_one (i := 5) sc_law_node_fault.nd)
    (mb_cons (ms_set (i := 6) sc_law_node_fault.nd (me_callH HS hr (ma_cons (me_var 0) (ma_cons (me_ix is_ix (me_ix is_ix (me_var 1) me_int) (me_var 5)) (ma_cons (me_bin os_add (me_var 2) (me_tup (ma_cons (me_var 5) ma_nil))) (ma_cons (me_bin os_add (me_var 3) (me_lst (ma_cons (me_ix is_ix (me_var 1) me_int) ma_nil))) ma_nil))))))
    (mb_one (ms_if (mt_cmp os_isNot (me_var 6) me_non) (mb_one (ms_ret (me_var 6))) mb_nil))))
    (mb_one (ms_ret me_non))))))))
end
end PL
/-! printed by gen.py: _law_due is worth its evaluator -/
namespace PL
open PySem PySem.Spec PyProof.Rows L2
section
variable {P : Program} {w : World} {K : PySem.W.Frag} {mg : Str → Option Value} {base : Heap}
theorem has_law_due (B : Blt mg) (d : DefOf K mg "_law_due" s_law_due ["rows", "tree"])  (h_law_row_fault : Has P w K mg base "_law_row_fault" ["rows", "at"] 2 m_law_row_fault) (h_law_node_fault : Has P w K mg base "_law_node_fault" ["rows", "tree", "path", "names"] 62 m_law_node_fault) : Has P w K mg base "_law_due" ["rows", "tree"] 63 m_law_due :=
  has_of (k := 62) (N := N_law_due) d sc_law_due fun cdv A outer s H E hr =>
  (mb_cons (ms_for PassesOwn.never rfl (mi_range1 rfl B.b_range (me_callB cs_len rfl B.b_len bb_len (ma_cons (me_var 0) ma_nil))) (mg_one (i := 2) sc_law_due.nd)
    (mb_cons (ms_set (i := 3) sc_law_due.nd (me_callH h_law_row_fault (hr.mono (by decide)) (ma_cons (me_var 0) (ma_cons (me_var 2) ma_nil))))
    (mb_one (ms_if (mt_cmp (os_ne hr.units) (me_var 3) me_str) (mb_one (ms_ret (me_tup (ma_cons me_str (ma_cons (me_var 2) (ma_cons (me_var 3) ma_nil)))))) mb_nil))))
    (mb_one (ms_ret (me_callH h_law_node_fault (hr.mono (by decide)) (ma_cons (me_var 0) (ma_cons (me_var 1) (ma_cons (me_tup ma_nil) (ma_cons (me_lst ma_nil) ma_nil))))))))
end
end PL
/-! printed by gen.py: _law_size is worth its evaluator -/
namespace PL
open PySem PySem.Spec PyProof.Rows L2
section
variable {P : Program} {w : World} {K : PySem.W.Frag} {mg : Str → Option Value} {base : Heap}
theorem has_law_size (B : Blt mg) (d : DefOf K mg "_law_size" s_law_size ["tree"])   : Has P w K mg base "_law_size" ["tree"] 61 m_law_size :=
  has_rec (k := 1) (n := 60) (N := N_law_size) d sc_law_size (by decide) fun n HS cdv A outer s H E hr =>
  (mb_cons (ms_if (mt_val (me_callB cs_isi rfl B.b_isinstance bb_isinstance (ma_cons (me_var 0) (ma_cons (me_bval (v := .ty "str") rfl B.b_str bt_str rfl) ma_nil)))) (mb_one (ms_ret me_int)) mb_nil)
    (mb_one (ms_ret (me_bin os_add me_int (me_callB (cs_sum rfl) rfl B.b_sum bb_sum (ma_cons (me_compG false (own := [("child", 1)]) rfl sc_law_size.nd (mi_val (me_ix is_ix (me_var 0) me_int)) (blkOk_by (own := [("child", 1)]) (N := N_law_size) (sc := defScope s_law_size) (by decide +kernel)) (fun _ _ _ _ _ => (mg_one (i := 1) sc_law_size.nd)) (fun _ _ _ _ _ => mts_nil) (fun _ _ _ _ _ => (me_callH HS hr (ma_cons (me_var 1) ma_nil)))) ma_nil))))))
end
end PL
/-! printed by gen.py: _law_spine is worth its evaluator -/
namespace PL
open PySem PySem.Spec PyProof.Rows L2
section
variable {P : Program} {w : World} {K : PySem.W.Frag} {mg : Str → Option Value} {base : Heap}
theorem has_law_spine (B : Blt mg) (d : DefOf K mg "_law_spine" s_law_spine ["script", "source", "free", "outcomes", "room", "deep"])  (h_law_draw : Has P w K mg base "_law_draw" ["script", "source", "limit"] 1 m_law_draw) : Has P w K mg base "_law_spine" ["script", "source", "free", "outcomes", "room", "deep"] 62 m_law_spine :=
  has_rec (k := 2) (n := 60) (N := N_law_spine) d sc_law_spine (by decide) fun n HS cdv A outer s H E hr =>
  (mb_cons (ms_set (i := 6) sc_law_spine.nd (me_ix is_ix (me_var 2) (me_callH h_law_draw (hr.mono (by omega)) (ma_cons (me_var 0) (ma_cons (me_var 1) (ma_cons (me_callB cs_len rfl B.b_len bb_len (ma_cons (me_var 2) ma_nil)) ma_nil))))))
    (mb_cons (ms_setCompG false (i := 7) (own := [("other", 12)]) rfl sc_law_spine.nd (mi_val (me_var 2)) (blkOk_by (own := [("other", 12)]) (N := N_law_spine) (sc := defScope s_law_spine) (by decide +kernel)) (fun _ _ _ _ _ => (mg_one (i := 12) sc_law_spine.nd)) (fun _ _ _ _ _ => (mts_one (mt_cmp (os_ne hr.units) (me_ix is_ix (me_var 12) me_int) (me_ix is_ix (me_var 6) me_int)))) (fun _ _ _ _ _ => (me_var 12)))
    (mb_cons (ms_sub sts_set (me_var 4) me_int (me_bin os_sub (me_ix is_ix (me_var 4) me_int) (me_callB cs_len rfl B.b_len bb_len (ma_cons (me_ix is_ix (me_var 6) me_int) ma_nil))))
    (mb_cons (ms_set (i := 8) sc_law_spine.nd (me_callH h_law_draw (hr.mono (by omega)) (ma_cons (me_var 0) (ma_cons (me_var 1) (ma_cons (me_callB cs_len rfl B.b_len bb_len (ma_cons (me_ix is_ix (me_var 6) me_int) ma_nil)) ma_nil)))))
    (mb_cons (ms_set (i := 9) sc_law_spine.nd (me_callH h_law_draw (hr.mono (by omega)) (ma_cons (me_var 0) (ma_cons (me_var 1) (ma_cons (me_callB cs_len rfl B.b_len bb_len (ma_cons (me_ix is_ix (me_var 6) me_int) ma_nil)) ma_nil)))))
    (mb_cons (ms_set (i := 10) sc_law_spine.nd (me_loc ma_nil))
    (mb_cons (ms_for PassesOwn.never rfl (mi_range1 rfl B.b_range (me_callB cs_len rfl B.b_len bb_len (ma_cons (me_ix is_ix (me_var 6) me_int) ma_nil))) (mg_one (i := 11) sc_law_spine.nd)
    (mb_one (ms_if (PW.pt (mw_and (mt_cmp (os_in hr.units) (me_var 11) (me_tup (ma_cons (me_var 8) (ma_cons (me_var 9) ma_nil)))) (mw_and (mt_cmp (os_gt hr.units) (me_var 5) me_int) (mw_and (mt_cmp (os_gt hr.units) (me_callB cs_len rfl B.b_len bb_len (ma_cons (me_var 7) ma_nil)) me_int) (mw_and1 (mt_cmp (os_ge hr.units) (me_ix is_ix (me_var 4) me_int) me_int)))))) (mb_one (ms_expr (me_bm mts_append PySem.F.plainAttrs_list PySem.F.slot_list_append PySem.F.type_list_append (me_var 10) (ma_cons (me_callH HS hr (ma_cons (me_var 0) (ma_cons (me_var 1) (ma_cons (me_var 7) (ma_cons (me_var 3) (ma_cons (me_var 4) (ma_cons (me_ix is_ix (me_lst (ma_cons me_int (ma_cons (me_bin os_sub (me_var 5) me_int) ma_nil))) (me_callTy cs_int rfl B.b_int bt_int (ma_cons (me_cmp (os_eq hr.units) (me_var 11) (me_var 8)) ma_nil))) ma_nil))))))) ma_nil)))) (mb_one (ms_expr (me_bm mts_append PySem.F.plainAttrs_list PySem.F.slot_list_append PySem.F.type_list_append (me_var 10) (ma_cons (me_ix is_ix (me_var 3) (me_callH h_law_draw (hr.mono (by omega)) (ma_cons (me_var 0) (ma_cons (me_var 1) (ma_cons (me_callB cs_len rfl B.b_len bb_len (ma_cons (me_var 3) ma_nil)) ma_nil))))) ma_nil)))))))
    (mb_one (ms_ret (me_tup (ma_cons (me_ix is_ix (me_var 6) me_int) (ma_cons (me_callTy cs_tuple rfl B.b_tuple bt_tuple (ma_cons (me_var 10) ma_nil)) ma_nil))))))))))))
end
end PL
/-! printed by gen.py: _law_wide is worth its evaluator -/
namespace PL
open PySem PySem.Spec PyProof.Rows L2
section
variable {P : Program} {w : World} {K : PySem.W.Frag} {mg : Str → Option Value} {base : Heap}
theorem has_law_wide (B : Blt mg) (d : DefOf K mg "_law_wide" s_law_wide ["script", "source"])  (h_law_draw : Has P w K mg base "_law_draw" ["script", "source", "limit"] 1 m_law_draw) (h_law_name : Has P w K mg base "_law_name" ["script", "source", "used"] 2 m_law_name) (h_law_reduced : Has P w K mg base "_law_reduced" ["weights"] 2 m_law_reduced) (h_law_spine : Has P w K mg base "_law_spine" ["script", "source", "free", "outcomes", "room", "deep"] 62 m_law_spine) : Has P w K mg base "_law_wide" ["script", "source"] 63 m_law_wide :=
  has_of (k := 62) (N := N_law_wide) d sc_law_wide fun cdv A outer s H E hr =>
  (mb_cons (ms_set (i := 2) sc_law_wide.nd me_str)
    (mb_cons (ms_set (i := 3) sc_law_wide.nd (me_bm mts_join PySem.F.plainAttrs_str PySem.F.slot_str_join PySem.F.type_str_join me_str (ma_cons (me_compG false (own := [("k", 6)]) rfl sc_law_wide.nd (mi_range1 rfl B.b_range me_int) (blkOk_by (own := [("k", 6)]) (N := N_law_wide) (sc := defScope s_law_wide) (by decide +kernel)) (fun _ _ _ _ _ => (mg_one (i := 6) sc_law_wide.nd)) (fun _ _ _ _ _ => mts_nil) (fun _ _ _ _ _ => (me_ix is_ix (me_var 2) (me_callH h_law_draw (hr.mono (by decide)) (ma_cons (me_var 0) (ma_cons (me_var 1) (ma_cons me_int ma_nil))))))) ma_nil)))
    (mb_cons (ms_set (i := 4) sc_law_wide.nd (me_loc ma_nil))
    (mb_cons (ms_set (i := 5) sc_law_wide.nd (me_loc ma_nil))
    (mb_cons (ms_for PassesOwn.never rfl (mi_range1 rfl B.b_range (me_ix is_ix (me_lst (ma_cons me_int (ma_cons me_int (ma_cons me_int (ma_cons (me_bin os_add me_int (me_callH h_law_draw (hr.mono (by decide)) (ma_cons (me_var 0) (ma_cons (me_var 1) (ma_cons me_int ma_nil))))) ma_nil))))) (me_callH h_law_draw (hr.mono (by decide)) (ma_cons (me_var 0) (ma_cons (me_var 1) (ma_cons me_int ma_nil)))))) (mg_one (i := 6) sc_law_wide.nd)
    (mb_cons (ms_set (i := 8) sc_law_wide.nd (me_ix is_ix (me_lst (ma_cons me_int (ma_cons me_int (ma_cons me_int (ma_cons me_int (ma_cons (me_bin os_add me_int (me_callH h_law_draw (hr.mono (by decide)) (ma_cons (me_var 0) (ma_cons (me_var 1) (ma_cons me_int ma_nil))))) (ma_cons me_int (ma_cons me_int (ma_cons me_int ma_nil))))))))) (me_callH h_law_draw (hr.mono (by decide)) (ma_cons (me_var 0) (ma_cons (me_var 1) (ma_cons me_int ma_nil))))))
    (mb_cons (ms_set (i := 9) sc_law_wide.nd (me_callH h_law_draw (hr.mono (by decide)) (ma_cons (me_var 0) (ma_cons (me_var 1) (ma_cons me_int ma_nil)))))
    (mb_cons (ms_setCompG true (i := 10) (own := [("j", 16)]) rfl sc_law_wide.nd (mi_range1 rfl B.b_range (me_var 8)) (blkOk_by (own := [("j", 16)]) (N := N_law_wide) (sc := defScope s_law_wide) (by decide +kernel)) (fun _ _ _ _ _ => (mg_one (i := 16) sc_law_wide.nd)) (fun _ _ _ _ _ => mts_nil) (fun _ _ _ _ _ => me_int))
    (mb_cons (ms_if (mt_cmp (os_eq hr.units) (me_var 9) me_int) (mb_cons (ms_setCompG true (i := 10) (own := [("j", 16)]) rfl sc_law_wide.nd (mi_range1 rfl B.b_range (me_var 8)) (blkOk_by (own := [("j", 16)]) (N := N_law_wide) (sc := defScope s_law_wide) (by decide +kernel)) (fun _ _ _ _ _ => (mg_one (i := 16) sc_law_wide.nd)) (fun _ _ _ _ _ => mts_nil) (fun _ _ _ _ _ => (me_bin os_add me_int (me_callH h_law_draw (hr.mono (by decide)) (ma_cons (me_var 0) (ma_cons (me_var 1) (ma_cons me_int ma_nil)))))))
    (mb_cons (ms_set (i := 14) sc_law_wide.nd (me_lst (ma_cons me_int (ma_cons (me_bin os_sub (me_bin os_sub (me_bin os_pow me_int me_int) me_int) (me_callH h_law_draw (hr.mono (by decide)) (ma_cons (me_var 0) (ma_cons (me_var 1) (ma_cons me_int ma_nil))))) (ma_cons (me_bin os_add me_int (me_callH h_law_draw (hr.mono (by decide)) (ma_cons (me_var 0) (ma_cons (me_var 1) (ma_cons (me_bin os_sub (me_bin os_pow me_int me_int) me_int) ma_nil))))) (ma_cons me_int ma_nil))))))
    (mb_cons (ms_set (i := 15) sc_law_wide.nd (me_callH h_law_draw (hr.mono (by decide)) (ma_cons (me_var 0) (ma_cons (me_var 1) (ma_cons (me_var 8) ma_nil)))))
    (mb_one (ms_sub sts_set (me_var 10) (me_var 15) (me_ix is_ix (me_var 14) (me_callH h_law_draw (hr.mono (by decide)) (ma_cons (me_var 0) (ma_cons (me_var 1) (ma_cons me_int ma_nil)))))))))) mb_nil)
    (mb_cons (ms_set (i := 11) sc_law_wide.nd (me_bin os_add (me_callH h_law_name (hr.mono (by decide)) (ma_cons (me_var 0) (ma_cons (me_var 1) (ma_cons (me_lst ma_nil) ma_nil)))) (me_sl ss_sl (me_var 3) mo_none (mo_some (me_callH h_law_draw (hr.mono (by decide)) (ma_cons (me_var 0) (ma_cons (me_var 1) (ma_cons me_int ma_nil))))))))
    (mb_cons (ms_set (i := 12) sc_law_wide.nd (me_var 11))
    (mb_cons (ms_for PassesOwn.never rfl (mi_range1 rfl B.b_range (me_bin os_add (me_callB cs_len rfl B.b_len bb_len (ma_cons (me_var 5) ma_nil)) me_int)) (mg_one (i := 13) sc_law_wide.nd)
    (mb_one (ms_if (mt_cmp (os_in hr.units) (me_var 12) (me_var 5)) (mb_one (ms_set (i := 12) sc_law_wide.nd (me_bin os_add (me_sl ss_sl (me_var 11) mo_none (mo_some me_int)) (me_callTy cs_str rfl B.b_str bt_str (ma_cons (me_var 13) ma_nil))))) mb_nil)))
    (mb_cons (ms_expr (me_bm mts_append PySem.F.plainAttrs_list PySem.F.slot_list_append PySem.F.type_list_append (me_var 5) (ma_cons (me_var 12) ma_nil)))
    (mb_one (ms_expr (me_bm mts_append PySem.F.plainAttrs_list PySem.F.slot_list_append PySem.F.type_list_append (me_var 4) (ma_cons (me_tup (ma_cons (me_var 12) (ma_cons (me_var 9) (ma_cons (me_callH h_law_reduced (hr.mono (by decide)) (ma_cons (me_var 10) ma_nil)) ma_nil)))) ma_nil)))))))))))))
    (mb_cons (ms_set (i := 4) sc_law_wide.nd (me_callB (cs_sorted hr.units) rfl B.b_sorted bb_sorted (ma_cons (me_var 4) ma_nil)))
    (mb_cons (ms_set (i := 7) sc_law_wide.nd (me_lst (ma_cons (me_callH h_law_name (hr.mono (by decide)) (ma_cons (me_var 0) (ma_cons (me_var 1) (ma_cons (me_lst ma_nil) ma_nil)))) (ma_cons (me_bin os_add me_str (me_var 3)) (ma_cons (me_ix is_ix (me_var 5) (me_callH h_law_draw (hr.mono (by decide)) (ma_cons (me_var 0) (ma_cons (me_var 1) (ma_cons (me_callB cs_len rfl B.b_len bb_len (ma_cons (me_var 5) ma_nil)) ma_nil))))) ma_nil)))))
    (mb_one (ms_ret (me_tup (ma_cons (me_callTy cs_tuple rfl B.b_tuple bt_tuple (ma_cons (me_var 4) ma_nil)) (ma_cons (me_callH h_law_spine (hr.mono (by decide)) (ma_cons (me_var 0) (ma_cons (me_var 1) (ma_cons (me_var 4) (ma_cons (me_var 7) (ma_cons (me_loc (ma_cons me_int ma_nil)) (ma_cons me_int ma_nil))))))) ma_nil))))))))))))
end
end PL
/-! printed by gen.py: _law_spoilt is worth its evaluator -/
namespace PL
open PySem PySem.Spec PyProof.Rows L2
section
variable {P : Program} {w : World} {K : PySem.W.Frag} {mg : Str → Option Value} {base : Heap}
theorem has_law_spoilt (B : Blt mg) (d : DefOf K mg "_law_spoilt" s_law_spoilt ["script", "source", "game"])  (h_law_draw : Has P w K mg base "_law_draw" ["script", "source", "limit"] 1 m_law_draw) (h_law_spoilt_rows : Has P w K mg base "_law_spoilt_rows" ["script", "source", "rows"] 3 m_law_spoilt_rows) (h_law_spoilt_tree : Has P w K mg base "_law_spoilt_tree" ["script", "source", "rows", "tree", "names", "left"] 63 m_law_spoilt_tree) (h_law_size : Has P w K mg base "_law_size" ["tree"] 61 m_law_size) : Has P w K mg base "_law_spoilt" ["script", "source", "game"] 64 m_law_spoilt :=
  has_of (k := 63) (N := N_law_spoilt) d sc_law_spoilt fun cdv A outer s H E hr =>
  (mb_cons (ms_tg (mg_tup rfl (mgs_cons (i := 4) sc_law_spoilt.nd (mgs_cons (i := 5) sc_law_spoilt.nd mgs_nil))) (me_var 2))
    (mb_cons (ms_for PassesOwn.never rfl (mi_range1 rfl B.b_range (me_callH h_law_draw (hr.mono (by decide)) (ma_cons (me_var 0) (ma_cons (me_var 1) (ma_cons me_int ma_nil))))) (mg_one (i := 3) sc_law_spoilt.nd)
    (mb_one (ms_if (PW.pt (mw_and (mt_cmp (os_gt hr.units) (me_callB cs_len rfl B.b_len bb_len (ma_cons (me_var 4) ma_nil)) me_int) (mw_and1 (mt_cmp (os_eq hr.units) (me_callH h_law_draw (hr.mono (by decide)) (ma_cons (me_var 0) (ma_cons (me_var 1) (ma_cons me_int ma_nil)))) me_int)))) (mb_one (ms_set (i := 4) sc_law_spoilt.nd (me_callH h_law_spoilt_rows (hr.mono (by decide)) (ma_cons (me_var 0) (ma_cons (me_var 1) (ma_cons (me_var 4) ma_nil)))))) (mb_cons (ms_set (i := 6) sc_law_spoilt.nd (me_loc (ma_cons (me_bin os_add me_int (me_callH h_law_draw (hr.mono (by decide)) (ma_cons (me_var 0) (ma_cons (me_var 1) (ma_cons (me_callH h_law_size (hr.mono (by decide)) (ma_cons (me_var 5) ma_nil)) ma_nil))))) ma_nil)))
    (mb_cons (ms_set (i := 7) sc_law_spoilt.nd (me_callH h_law_spoilt_tree (hr.mono (by decide)) (ma_cons (me_var 0) (ma_cons (me_var 1) (ma_cons (me_var 4) (ma_cons (me_var 5) (ma_cons (me_lst ma_nil) (ma_cons (me_var 6) ma_nil))))))))
    (mb_one (ms_if (mt_cmp (os_le hr.units) (me_callH h_law_size (hr.mono (by decide)) (ma_cons (me_var 7) ma_nil)) me_int) (mb_one (ms_set (i := 5) sc_law_spoilt.nd (me_var 7))) mb_nil)))))))
    (mb_one (ms_ret (me_tup (ma_cons (me_var 4) (ma_cons (me_var 5) ma_nil)))))))
end
end PL
/-! printed by gen.py: _law_agrees is worth its evaluator -/
namespace PL
open PySem PySem.Spec PyProof.Rows L2
section
variable {P : Program} {w : World} {K : PySem.W.Frag} {mg : Str → Option Value} {base : Heap}
theorem has_law_agrees (B : Blt mg) (d : DefOf K mg "_law_agrees" s_law_agrees ["rows", "tree"])  {C_BadGame fI_BadGame : Addr} (x_BadGame : PLX.XTxt P K mg "BadGame" C_BadGame fI_BadGame "fault" "BadGame.__init__") (te_BadGame : PySem.W.exmOne K (.ref C_BadGame) (.ref C_BadGame) = some true) (is_BadGame : IsC K C_BadGame) {C_BadDerivation : Addr} (g_BadDerivation : mg "BadDerivation" = some (.ref C_BadDerivation)) {C_BadPath : Addr} (g_BadPath : mg "BadPath" = some (.ref C_BadPath)) {C_BadStep : Addr} (g_BadStep : mg "BadStep" = some (.ref C_BadStep)) {C_BadText : Addr} (g_BadText : mg "BadText" = some (.ref C_BadText)) {C_GameError : Addr} (g_GameError : mg "GameError" = some (.ref C_GameError)) {C_NameTaken : Addr} (g_NameTaken : mg "NameTaken" = some (.ref C_NameTaken)) {C_NamesMeet : Addr} (g_NamesMeet : mg "NamesMeet" = some (.ref C_NamesMeet)) {C_NoMatch : Addr} (g_NoMatch : mg "NoMatch" = some (.ref C_NoMatch)) {C_NotLeveled : Addr} (g_NotLeveled : mg "NotLeveled" = some (.ref C_NotLeveled)) {C_UnknownName : Addr} (g_UnknownName : mg "UnknownName" = some (.ref C_UnknownName)) (k_BadGame_BadDerivation : PySem.W.kitOne K (.ref C_BadGame) (.ref C_BadDerivation) = some false) (k_BadGame_BadPath : PySem.W.kitOne K (.ref C_BadGame) (.ref C_BadPath) = some false) (k_BadGame_BadStep : PySem.W.kitOne K (.ref C_BadGame) (.ref C_BadStep) = some false) (k_BadGame_BadText : PySem.W.kitOne K (.ref C_BadGame) (.ref C_BadText) = some false) (k_BadGame_GameError : PySem.W.kitOne K (.ref C_BadGame) (.ref C_GameError) = some true) (k_BadGame_NameTaken : PySem.W.kitOne K (.ref C_BadGame) (.ref C_NameTaken) = some false) (k_BadGame_NamesMeet : PySem.W.kitOne K (.ref C_BadGame) (.ref C_NamesMeet) = some false) (k_BadGame_NoMatch : PySem.W.kitOne K (.ref C_BadGame) (.ref C_NoMatch) = some false) (k_BadGame_NotLeveled : PySem.W.kitOne K (.ref C_BadGame) (.ref C_NotLeveled) = some false) (k_BadGame_UnknownName : PySem.W.kitOne K (.ref C_BadGame) (.ref C_UnknownName) = some false) (k_BadGame_ValueError : PySem.W.kitOne K (.ref C_BadGame) (.type "ValueError") = some true) (h_first_fault : Has P w K mg base "first_fault" ["game"] 63 m_first_fault) (h_check_game : HasX P w K mg base "check_game" ["game"] 64 m_check_game) (h_law_plain : Has P w K mg base "_law_plain" ["answer"] 61 m_law_plain) (h_law_due : Has P w K mg base "_law_due" ["rows", "tree"] 63 m_law_due) : Has P w K mg base "_law_agrees" ["rows", "tree"] 65 m_law_agrees :=
  has_of (k := 64) (N := N_law_agrees) d sc_law_agrees fun cdv A outer s H E hr =>
  (mb_cons (ms_set (i := 2) sc_law_agrees.nd (me_callH h_law_due (hr.mono (by decide)) (ma_cons (me_var 0) (ma_cons (me_var 1) ma_nil))))
    (mb_cons (ms_set (i := 3) sc_law_agrees.nd (me_callH h_first_fault (hr.mono (by decide)) (ma_cons (me_tup (ma_cons (me_var 0) (ma_cons (me_var 1) ma_nil))) ma_nil)))
    (mb_cons (ms_set (i := 4) sc_law_agrees.nd (me_lst ma_nil))
    (mb_cons (ms_set (i := 5) sc_law_agrees.nd me_non)
    (mb_cons (ms_try (i := 6) rfl rfl sc_law_agrees.nd rfl rfl ⟨rfl, by decide, Or.inl x_BadGame.gC⟩ x_BadGame.gC te_BadGame (fun W pn xe tk => (mb_one (ms_set (i := 5) sc_law_agrees.nd (me_callX tk h_check_game (hr.mono (by decide)) (ma_cons (me_tup (ma_cons (me_var 0) (ma_cons (me_var 1) ma_nil))) ma_nil)))))
    (fun a oe d pn hz hf => (mb_cons (ms_set (i := 7) sc_law_agrees.nd (me_isET is_BadGame hz hf B.b_isinstance bb_isinstance (kitAny_cons (b := false) k_BadGame_BadDerivation (fun _ => (kitAny_cons (b := false) k_BadGame_BadPath (fun _ => (kitAny_cons (b := false) k_BadGame_BadStep (fun _ => (kitAny_cons (b := false) k_BadGame_BadText (fun _ => (kitAny_cons (b := false) k_BadGame_NamesMeet (fun _ => (kitAny_cons (b := false) k_BadGame_NameTaken (fun _ => (kitAny_cons (b := false) k_BadGame_NoMatch (fun _ => (kitAny_cons (b := false) k_BadGame_NotLeveled (fun _ => (kitAny_cons (b := false) k_BadGame_UnknownName (fun _ => rfl) (fun z => nomatch z))) (fun z => nomatch z))) (fun z => nomatch z))) (fun z => nomatch z))) (fun z => nomatch z))) (fun z => nomatch z))) (fun z => nomatch z))) (fun z => nomatch z))) (fun z => nomatch z)) (fun _ r => vals_refs (as := [C_BadDerivation, C_BadPath, C_BadStep, C_BadText, C_NamesMeet, C_NameTaken, C_NoMatch, C_NotLeveled, C_UnknownName]) r) (show 9 ≤ 1000 by decide) (fun W => (ma_cs_cons (v := .ref C_BadDerivation) rfl g_BadDerivation rfl (ma_cs_cons (v := .ref C_BadPath) rfl g_BadPath rfl (ma_cs_cons (v := .ref C_BadStep) rfl g_BadStep rfl (ma_cs_cons (v := .ref C_BadText) rfl g_BadText rfl (ma_cs_cons (v := .ref C_NamesMeet) rfl g_NamesMeet rfl (ma_cs_cons (v := .ref C_NameTaken) rfl g_NameTaken rfl (ma_cs_cons (v := .ref C_NoMatch) rfl g_NoMatch rfl (ma_cs_cons (v := .ref C_NotLeveled) rfl g_NotLeveled rfl (ma_cs_cons (v := .ref C_UnknownName) rfl g_UnknownName rfl ma_cs_nil)))))))))) (me_var 6)))
    (mb_cons (ms_set (i := 4) sc_law_agrees.nd (me_lst (ma_cons me_str ma_nil)))
    (mb_one (ms_if (PW.pt (mw_and (mt_val (me_isE (u := .ref C_GameError) (v := .ref C_GameError) is_BadGame hz hf B.b_isinstance bb_isinstance k_BadGame_GameError (fun _ r => r) (fun W => me_gval (v := .ref C_GameError) rfl g_GameError rfl) (me_var 6))) (mw_and (mt_val (me_isE (u := .type "ValueError") (v := .ty "ValueError") is_BadGame hz hf B.b_isinstance bb_isinstance k_BadGame_ValueError (fun _ r => r) (fun W => me_bval (v := .ty "ValueError") rfl B.b_ValueError bt_ValueError rfl) (me_var 6))) (mw_and1 (mt_not (mt_val (me_var 7))))))) (mb_one (ms_set (i := 4) sc_law_agrees.nd (me_lst (ma_cons (me_xf ⟨x_BadGame.ga, x_BadGame.gg, x_BadGame.exC, x_BadGame.hdC⟩ x_BadGame.noN hz hf (me_var 6)) ma_nil)))) mb_nil))))))
    (mb_cons (ms_if (mt_cmp os_is (me_var 2) me_non) (mb_one (ms_ret (me_and (me_cmp os_is (me_var 3) me_non) (me_and (me_cmp (os_eq hr.units) (me_var 4) (me_lst ma_nil)) (me_one (me_cmp os_is (me_var 5) me_non)))))) mb_nil)
    (mb_cons (ms_if (PW.pt (mw_or (mt_not (mt_val (me_callH h_law_plain (hr.mono (by decide)) (ma_cons (me_callTy cs_tuple rfl B.b_tuple bt_tuple (ma_cons (me_var 4) ma_nil)) ma_nil)))) (mw_or (mt_cmp (os_ne hr.units) (me_var 4) (me_lst (ma_cons (me_var 2) ma_nil))) (mw_or1 (mt_cmp (os_ne hr.units) (me_mkFld (k := 0) x_BadGame (hr.mono (by decide)) (me_var 2)) (me_var 2)))))) (mb_one (ms_ret me_bl)) mb_nil)
    (mb_one (ms_ret (me_and (me_callH h_law_plain (hr.mono (by decide)) (ma_cons (me_var 3) ma_nil)) (me_one (me_cmp (os_eq hr.units) (me_var 3) (me_var 2)))))))))))))
end
end PL
/-! printed by gen.py: law is worth its evaluator -/
namespace PL
open PySem PySem.Spec PyProof.Rows L2
section
variable {P : Program} {w : World} {K : PySem.W.Frag} {mg : Str → Option Value} {base : Heap}
theorem has_law (B : Blt mg) (d : DefOf K mg "law" s_law ["script"])  (h_law_source : Has P w K mg base "_law_source" ["script"] 1 m_law_source) (h_law_draw : Has P w K mg base "_law_draw" ["script", "source", "limit"] 1 m_law_draw) (h_law_game : Has P w K mg base "_law_game" ["script", "source", "many", "most", "nodes"] 63 m_law_game) (h_law_wide : Has P w K mg base "_law_wide" ["script", "source"] 63 m_law_wide) (h_law_spoilt : Has P w K mg base "_law_spoilt" ["script", "source", "game"] 64 m_law_spoilt) (h_law_agrees : Has P w K mg base "_law_agrees" ["rows", "tree"] 65 m_law_agrees) : Has P w K mg base "law" ["script"] 66 m_law :=
  has_of (k := 65) (N := N_law) d sc_law fun cdv A outer s H E hr =>
  (mb_cons (ms_set (i := 1) sc_law.nd (me_callH h_law_source (hr.mono (by decide)) (ma_cons (me_var 0) ma_nil)))
    (mb_cons (ms_tg (mg_tup rfl (mgs_cons (i := 2) sc_law.nd (mgs_cons (i := 3) sc_law.nd mgs_nil))) (me_callH h_law_spoilt (hr.mono (by decide)) (ma_cons (me_var 0) (ma_cons (me_var 1) (ma_cons (me_callH h_law_game (hr.mono (by decide)) (ma_cons (me_var 0) (ma_cons (me_var 1) (ma_cons me_int (ma_cons me_int (ma_cons me_int ma_nil)))))) ma_nil)))))
    (mb_cons (ms_if (mt_not (mt_val (me_callH h_law_agrees (hr.mono (by decide)) (ma_cons (me_var 2) (ma_cons (me_var 3) ma_nil))))) (mb_one (ms_ret me_bl)) mb_nil)
    (mb_cons (ms_if (mt_cmp (os_gt hr.units) (me_callH h_law_draw (hr.mono (by decide)) (ma_cons (me_var 0) (ma_cons (me_var 1) (ma_cons me_int ma_nil)))) me_int) (mb_one (ms_ret me_bl)) mb_nil)
    (mb_cons (ms_tg (mg_tup rfl (mgs_cons (i := 2) sc_law.nd (mgs_cons (i := 3) sc_law.nd mgs_nil))) (me_callH h_law_spoilt (hr.mono (by decide)) (ma_cons (me_var 0) (ma_cons (me_var 1) (ma_cons (me_callH h_law_wide (hr.mono (by decide)) (ma_cons (me_var 0) (ma_cons (me_var 1) ma_nil))) ma_nil)))))
    (mb_one (ms_ret (me_callH h_law_agrees (hr.mono (by decide)) (ma_cons (me_var 2) (ma_cons (me_var 3) ma_nil))))))))))
end
end PL
/-! printed by genend.py: the end -/
namespace PL
open PySem PySem.Spec PyProof.Rows L2
abbrev rwL : PySem.W.OpenLaw := PySem.Challenge.rw_sequencesandadvice_k87_first_fault
theorem end_mk {w : World} {K : PySem.W.Frag} {h : Heap} {mg : Str → Option Value} {fa : Addr} (X : K.In h) (G : h.Ns mainGlobals mg) (hfa : mg "law" = some (.ref fa))
    {tk_DIGITS : Tok}
    {tk_LETTERS : Tok}
    {tk_LONGEST_NAME : Tok}
    {tk_MOST_MOVES : Tok}
    {C_BadDerivation : Addr}
    {C_BadGame : Addr}
    {C_BadPath : Addr}
    {C_BadStep : Addr}
    {C_BadText : Addr}
    {C_GameError : Addr}
    {C_NameTaken : Addr}
    {C_NamesMeet : Addr}
    {C_NoMatch : Addr}
    {C_NotLeveled : Addr}
    {C_UnknownName : Addr}
    {f_reduced : Addr} {od_reduced an_reduced : Option Addr} {sl_reduced : Array (Option Value)} {oc_reduced kV_reduced dc_reduced pm_reduced cd_reduced ct_reduced : Value}
    {f_is_name : Addr} {od_is_name an_is_name : Option Addr} {sl_is_name : Array (Option Value)} {oc_is_name kV_is_name dc_is_name pm_is_name cd_is_name ct_is_name : Value}
    {f_row_of : Addr} {od_row_of an_row_of : Option Addr} {sl_row_of : Array (Option Value)} {oc_row_of kV_row_of dc_row_of pm_row_of cd_row_of ct_row_of : Value}
    {f_are_weights : Addr} {od_are_weights an_are_weights : Option Addr} {sl_are_weights : Array (Option Value)} {oc_are_weights kV_are_weights dc_are_weights pm_are_weights cd_are_weights ct_are_weights : Value}
    {f_row_fault : Addr} {od_row_fault an_row_fault : Option Addr} {sl_row_fault : Array (Option Value)} {oc_row_fault kV_row_fault dc_row_fault pm_row_fault cd_row_fault ct_row_fault : Value}
    {f_node_fault : Addr} {od_node_fault an_node_fault : Option Addr} {sl_node_fault : Array (Option Value)} {oc_node_fault kV_node_fault dc_node_fault pm_node_fault cd_node_fault ct_node_fault : Value}
    {f_first_fault : Addr} {od_first_fault an_first_fault : Option Addr} {sl_first_fault : Array (Option Value)} {oc_first_fault kV_first_fault dc_first_fault pm_first_fault cd_first_fault ct_first_fault : Value}
    {f_check_game : Addr} {od_check_game an_check_game : Option Addr} {sl_check_game : Array (Option Value)} {oc_check_game kV_check_game dc_check_game pm_check_game cd_check_game ct_check_game : Value}
    {f_law_source : Addr} {od_law_source an_law_source : Option Addr} {sl_law_source : Array (Option Value)} {oc_law_source kV_law_source dc_law_source pm_law_source cd_law_source ct_law_source : Value}
    {f_law_draw : Addr} {od_law_draw an_law_draw : Option Addr} {sl_law_draw : Array (Option Value)} {oc_law_draw kV_law_draw dc_law_draw pm_law_draw cd_law_draw ct_law_draw : Value}
    {f_law_name : Addr} {od_law_name an_law_name : Option Addr} {sl_law_name : Array (Option Value)} {oc_law_name kV_law_name dc_law_name pm_law_name cd_law_name ct_law_name : Value}
    {f_law_gcd : Addr} {od_law_gcd an_law_gcd : Option Addr} {sl_law_gcd : Array (Option Value)} {oc_law_gcd kV_law_gcd dc_law_gcd pm_law_gcd cd_law_gcd ct_law_gcd : Value}
    {f_law_reduced : Addr} {od_law_reduced an_law_reduced : Option Addr} {sl_law_reduced : Array (Option Value)} {oc_law_reduced kV_law_reduced dc_law_reduced pm_law_reduced cd_law_reduced ct_law_reduced : Value}
    {f_law_sets : Addr} {od_law_sets an_law_sets : Option Addr} {sl_law_sets : Array (Option Value)} {oc_law_sets kV_law_sets dc_law_sets pm_law_sets cd_law_sets ct_law_sets : Value}
    {f_law_tree : Addr} {od_law_tree an_law_tree : Option Addr} {sl_law_tree : Array (Option Value)} {oc_law_tree kV_law_tree dc_law_tree pm_law_tree cd_law_tree ct_law_tree : Value}
    {f_law_game : Addr} {od_law_game an_law_game : Option Addr} {sl_law_game : Array (Option Value)} {oc_law_game kV_law_game dc_law_game pm_law_game cd_law_game ct_law_game : Value}
    {f_law_plain : Addr} {od_law_plain an_law_plain : Option Addr} {sl_law_plain : Array (Option Value)} {oc_law_plain kV_law_plain dc_law_plain pm_law_plain cd_law_plain ct_law_plain : Value}
    {f_law_bad_name : Addr} {od_law_bad_name an_law_bad_name : Option Addr} {sl_law_bad_name : Array (Option Value)} {oc_law_bad_name kV_law_bad_name dc_law_bad_name pm_law_bad_name cd_law_bad_name ct_law_bad_name : Value}
    {f_law_spoilt_rows : Addr} {od_law_spoilt_rows an_law_spoilt_rows : Option Addr} {sl_law_spoilt_rows : Array (Option Value)} {oc_law_spoilt_rows kV_law_spoilt_rows dc_law_spoilt_rows pm_law_spoilt_rows cd_law_spoilt_rows ct_law_spoilt_rows : Value}
    {f_law_spoilt_tree : Addr} {od_law_spoilt_tree an_law_spoilt_tree : Option Addr} {sl_law_spoilt_tree : Array (Option Value)} {oc_law_spoilt_tree kV_law_spoilt_tree dc_law_spoilt_tree pm_law_spoilt_tree cd_law_spoilt_tree ct_law_spoilt_tree : Value}
    {f_law_is_name : Addr} {od_law_is_name an_law_is_name : Option Addr} {sl_law_is_name : Array (Option Value)} {oc_law_is_name kV_law_is_name dc_law_is_name pm_law_is_name cd_law_is_name ct_law_is_name : Value}
    {f_law_row_fault : Addr} {od_law_row_fault an_law_row_fault : Option Addr} {sl_law_row_fault : Array (Option Value)} {oc_law_row_fault kV_law_row_fault dc_law_row_fault pm_law_row_fault cd_law_row_fault ct_law_row_fault : Value}
    {f_law_node_fault : Addr} {od_law_node_fault an_law_node_fault : Option Addr} {sl_law_node_fault : Array (Option Value)} {oc_law_node_fault kV_law_node_fault dc_law_node_fault pm_law_node_fault cd_law_node_fault ct_law_node_fault : Value}
    {f_law_due : Addr} {od_law_due an_law_due : Option Addr} {sl_law_due : Array (Option Value)} {oc_law_due kV_law_due dc_law_due pm_law_due cd_law_due ct_law_due : Value}
    {f_law_size : Addr} {od_law_size an_law_size : Option Addr} {sl_law_size : Array (Option Value)} {oc_law_size kV_law_size dc_law_size pm_law_size cd_law_size ct_law_size : Value}
    {f_law_spine : Addr} {od_law_spine an_law_spine : Option Addr} {sl_law_spine : Array (Option Value)} {oc_law_spine kV_law_spine dc_law_spine pm_law_spine cd_law_spine ct_law_spine : Value}
    {f_law_wide : Addr} {od_law_wide an_law_wide : Option Addr} {sl_law_wide : Array (Option Value)} {oc_law_wide kV_law_wide dc_law_wide pm_law_wide cd_law_wide ct_law_wide : Value}
    {f_law_spoilt : Addr} {od_law_spoilt an_law_spoilt : Option Addr} {sl_law_spoilt : Array (Option Value)} {oc_law_spoilt kV_law_spoilt dc_law_spoilt pm_law_spoilt cd_law_spoilt ct_law_spoilt : Value}
    {f_law_agrees : Addr} {od_law_agrees an_law_agrees : Option Addr} {sl_law_agrees : Array (Option Value)} {oc_law_agrees kV_law_agrees dc_law_agrees pm_law_agrees cd_law_agrees ct_law_agrees : Value}
    {f_law : Addr} {od_law an_law : Option Addr} {sl_law : Array (Option Value)} {oc_law kV_law dc_law pm_law cd_law ct_law : Value}
    {fI_BadGame : Addr} {nm_BadGame q_BadGame : Str} {N_BadGame : Addr} {bs_BadGame bm_BadGame sub_BadGame : List Value} {sn_BadGame : List Str} {ab_BadGame : Bool} {col_BadGame : Option Bool} {dd_BadGame : Option Addr} {k0_BadGame k1_BadGame k2_BadGame k3_BadGame k5_BadGame : Option Value}
    {xoc_BadGame : Value} {xod_BadGame : Option Addr} {xdoc_BadGame xpm_BadGame : Value} {xan_BadGame : Option Addr} {xcda_BadGame xcc_BadGame : Addr} {xct_BadGame : Value} {xsl_BadGame : Array (Option Value)} {xccl_BadGame : Value} {xcdd_BadGame : Option Addr} {xvs_BadGame : Array Value} {xccs_BadGame : Array (Option Value)} {xcl_BadGame : Value} {xcld_BadGame : Option Addr} {xcsl_BadGame : Array (Option Value)} {xfile_BadGame : Str} {xtf_BadGame : Tok} {p1_BadGame p2_BadGame a1_BadGame a2_BadGame a3_BadGame a4_BadGame a5_BadGame a6_BadGame q1_BadGame q2_BadGame q3_BadGame q4_BadGame : Pos} {xmsg_BadGame : Str} {xj_BadGame : Nat}
    (z_ValueError : PySem.W.nsIn K mainGlobals "ValueError" = some none)
    (z_abs : PySem.W.nsIn K mainGlobals "abs" = some none)
    (z_bool : PySem.W.nsIn K mainGlobals "bool" = some none)
    (z_enumerate : PySem.W.nsIn K mainGlobals "enumerate" = some none)
    (z_int : PySem.W.nsIn K mainGlobals "int" = some none)
    (z_isinstance : PySem.W.nsIn K mainGlobals "isinstance" = some none)
    (z_len : PySem.W.nsIn K mainGlobals "len" = some none)
    (z_list : PySem.W.nsIn K mainGlobals "list" = some none)
    (z_max : PySem.W.nsIn K mainGlobals "max" = some none)
    (z_min : PySem.W.nsIn K mainGlobals "min" = some none)
    (z_range : PySem.W.nsIn K mainGlobals "range" = some none)
    (z_sorted : PySem.W.nsIn K mainGlobals "sorted" = some none)
    (z_str : PySem.W.nsIn K mainGlobals "str" = some none)
    (z_sum : PySem.W.nsIn K mainGlobals "sum" = some none)
    (z_tuple : PySem.W.nsIn K mainGlobals "tuple" = some none)
    (z_super : PySem.W.nsIn K mainGlobals "super" = some none)
    (z_gcd : PySem.W.nsIn K mainGlobals "gcd" = some (some (.builtin "math.gcd")))
    (z_DIGITS : PySem.W.nsIn K mainGlobals "DIGITS" = some (some (.str ("0123456789" : Str) tk_DIGITS)))
    (z_LETTERS : PySem.W.nsIn K mainGlobals "LETTERS" = some (some (.str ("abcdefghijklmnopqrstuvwxyz" : Str) tk_LETTERS)))
    (z_LONGEST_NAME : PySem.W.nsIn K mainGlobals "LONGEST_NAME" = some (some (.int 12 tk_LONGEST_NAME)))
    (z_MOST_MOVES : PySem.W.nsIn K mainGlobals "MOST_MOVES" = some (some (.int 64 tk_MOST_MOVES)))
    (g_BadDerivation : PySem.W.nsIn K mainGlobals "BadDerivation" = some (some (.ref C_BadDerivation)))
    (g_BadGame : PySem.W.nsIn K mainGlobals "BadGame" = some (some (.ref C_BadGame)))
    (g_BadPath : PySem.W.nsIn K mainGlobals "BadPath" = some (some (.ref C_BadPath)))
    (g_BadStep : PySem.W.nsIn K mainGlobals "BadStep" = some (some (.ref C_BadStep)))
    (g_BadText : PySem.W.nsIn K mainGlobals "BadText" = some (some (.ref C_BadText)))
    (g_GameError : PySem.W.nsIn K mainGlobals "GameError" = some (some (.ref C_GameError)))
    (g_NameTaken : PySem.W.nsIn K mainGlobals "NameTaken" = some (some (.ref C_NameTaken)))
    (g_NamesMeet : PySem.W.nsIn K mainGlobals "NamesMeet" = some (some (.ref C_NamesMeet)))
    (g_NoMatch : PySem.W.nsIn K mainGlobals "NoMatch" = some (some (.ref C_NoMatch)))
    (g_NotLeveled : PySem.W.nsIn K mainGlobals "NotLeveled" = some (some (.ref C_NotLeveled)))
    (g_UnknownName : PySem.W.nsIn K mainGlobals "UnknownName" = some (some (.ref C_UnknownName)))
    (a_reduced : PySem.W.nsIn K mainGlobals "reduced" = some (some (.ref f_reduced)))
    (l_reduced : K.lookup f_reduced = some ⟨oc_reduced, od_reduced, .func (PySem.W.fnOf "reduced" "reduced" (defArgs s_reduced) (defBody s_reduced) (defScope s_reduced) .none kV_reduced dc_reduced pm_reduced an_reduced cd_reduced ct_reduced), sl_reduced⟩)
    (c_reduced : PySem.W.codeIn K cd_reduced "reduced" = true)
    (k_reduced : PySem.W.keepIn K (.ref f_reduced) = true)
    (a_is_name : PySem.W.nsIn K mainGlobals "is_name" = some (some (.ref f_is_name)))
    (l_is_name : K.lookup f_is_name = some ⟨oc_is_name, od_is_name, .func (PySem.W.fnOf "is_name" "is_name" (defArgs s_is_name) (defBody s_is_name) (defScope s_is_name) .none kV_is_name dc_is_name pm_is_name an_is_name cd_is_name ct_is_name), sl_is_name⟩)
    (c_is_name : PySem.W.codeIn K cd_is_name "is_name" = true)
    (k_is_name : PySem.W.keepIn K (.ref f_is_name) = true)
    (a_row_of : PySem.W.nsIn K mainGlobals "row_of" = some (some (.ref f_row_of)))
    (l_row_of : K.lookup f_row_of = some ⟨oc_row_of, od_row_of, .func (PySem.W.fnOf "row_of" "row_of" (defArgs s_row_of) (defBody s_row_of) (defScope s_row_of) .none kV_row_of dc_row_of pm_row_of an_row_of cd_row_of ct_row_of), sl_row_of⟩)
    (c_row_of : PySem.W.codeIn K cd_row_of "row_of" = true)
    (k_row_of : PySem.W.keepIn K (.ref f_row_of) = true)
    (a_are_weights : PySem.W.nsIn K mainGlobals "are_weights" = some (some (.ref f_are_weights)))
    (l_are_weights : K.lookup f_are_weights = some ⟨oc_are_weights, od_are_weights, .func (PySem.W.fnOf "are_weights" "are_weights" (defArgs s_are_weights) (defBody s_are_weights) (defScope s_are_weights) .none kV_are_weights dc_are_weights pm_are_weights an_are_weights cd_are_weights ct_are_weights), sl_are_weights⟩)
    (c_are_weights : PySem.W.codeIn K cd_are_weights "are_weights" = true)
    (k_are_weights : PySem.W.keepIn K (.ref f_are_weights) = true)
    (a_row_fault : PySem.W.nsIn K mainGlobals "_row_fault" = some (some (.ref f_row_fault)))
    (l_row_fault : K.lookup f_row_fault = some ⟨oc_row_fault, od_row_fault, .func (PySem.W.fnOf "_row_fault" "_row_fault" (defArgs s_row_fault) (defBody s_row_fault) (defScope s_row_fault) .none kV_row_fault dc_row_fault pm_row_fault an_row_fault cd_row_fault ct_row_fault), sl_row_fault⟩)
    (c_row_fault : PySem.W.codeIn K cd_row_fault "_row_fault" = true)
    (k_row_fault : PySem.W.keepIn K (.ref f_row_fault) = true)
    (a_node_fault : PySem.W.nsIn K mainGlobals "_node_fault" = some (some (.ref f_node_fault)))
    (l_node_fault : K.lookup f_node_fault = some ⟨oc_node_fault, od_node_fault, .func (PySem.W.fnOf "_node_fault" "_node_fault" (defArgs s_node_fault) (defBody s_node_fault) (defScope s_node_fault) .none kV_node_fault dc_node_fault pm_node_fault an_node_fault cd_node_fault ct_node_fault), sl_node_fault⟩)
    (c_node_fault : PySem.W.codeIn K cd_node_fault "_node_fault" = true)
    (k_node_fault : PySem.W.keepIn K (.ref f_node_fault) = true)
    (a_first_fault : PySem.W.nsIn K mainGlobals "first_fault" = some (some (.ref f_first_fault)))
    (l_first_fault : K.lookup f_first_fault = some ⟨oc_first_fault, od_first_fault, .func (PySem.W.fnOf "first_fault" "first_fault" (defArgs s_first_fault) (defBody s_first_fault) (defScope s_first_fault) .none kV_first_fault dc_first_fault pm_first_fault an_first_fault cd_first_fault ct_first_fault), sl_first_fault⟩)
    (c_first_fault : PySem.W.codeIn K cd_first_fault "first_fault" = true)
    (k_first_fault : PySem.W.keepIn K (.ref f_first_fault) = true)
    (a_check_game : PySem.W.nsIn K mainGlobals "check_game" = some (some (.ref f_check_game)))
    (l_check_game : K.lookup f_check_game = some ⟨oc_check_game, od_check_game, .func (PySem.W.fnOf "check_game" "check_game" (defArgs s_check_game) (defBody s_check_game) (defScope s_check_game) .none kV_check_game dc_check_game pm_check_game an_check_game cd_check_game ct_check_game), sl_check_game⟩)
    (c_check_game : PySem.W.codeIn K cd_check_game "check_game" = true)
    (k_check_game : PySem.W.keepIn K (.ref f_check_game) = true)
    (a_law_source : PySem.W.nsIn K mainGlobals "_law_source" = some (some (.ref f_law_source)))
    (l_law_source : K.lookup f_law_source = some ⟨oc_law_source, od_law_source, .func (PySem.W.fnOf "_law_source" "_law_source" (defArgs s_law_source) (defBody s_law_source) (defScope s_law_source) .none kV_law_source dc_law_source pm_law_source an_law_source cd_law_source ct_law_source), sl_law_source⟩)
    (c_law_source : PySem.W.codeIn K cd_law_source "_law_source" = true)
    (k_law_source : PySem.W.keepIn K (.ref f_law_source) = true)
    (a_law_draw : PySem.W.nsIn K mainGlobals "_law_draw" = some (some (.ref f_law_draw)))
    (l_law_draw : K.lookup f_law_draw = some ⟨oc_law_draw, od_law_draw, .func (PySem.W.fnOf "_law_draw" "_law_draw" (defArgs s_law_draw) (defBody s_law_draw) (defScope s_law_draw) .none kV_law_draw dc_law_draw pm_law_draw an_law_draw cd_law_draw ct_law_draw), sl_law_draw⟩)
    (c_law_draw : PySem.W.codeIn K cd_law_draw "_law_draw" = true)
    (k_law_draw : PySem.W.keepIn K (.ref f_law_draw) = true)
    (a_law_name : PySem.W.nsIn K mainGlobals "_law_name" = some (some (.ref f_law_name)))
    (l_law_name : K.lookup f_law_name = some ⟨oc_law_name, od_law_name, .func (PySem.W.fnOf "_law_name" "_law_name" (defArgs s_law_name) (defBody s_law_name) (defScope s_law_name) .none kV_law_name dc_law_name pm_law_name an_law_name cd_law_name ct_law_name), sl_law_name⟩)
    (c_law_name : PySem.W.codeIn K cd_law_name "_law_name" = true)
    (k_law_name : PySem.W.keepIn K (.ref f_law_name) = true)
    (a_law_gcd : PySem.W.nsIn K mainGlobals "_law_gcd" = some (some (.ref f_law_gcd)))
    (l_law_gcd : K.lookup f_law_gcd = some ⟨oc_law_gcd, od_law_gcd, .func (PySem.W.fnOf "_law_gcd" "_law_gcd" (defArgs s_law_gcd) (defBody s_law_gcd) (defScope s_law_gcd) .none kV_law_gcd dc_law_gcd pm_law_gcd an_law_gcd cd_law_gcd ct_law_gcd), sl_law_gcd⟩)
    (c_law_gcd : PySem.W.codeIn K cd_law_gcd "_law_gcd" = true)
    (k_law_gcd : PySem.W.keepIn K (.ref f_law_gcd) = true)
    (a_law_reduced : PySem.W.nsIn K mainGlobals "_law_reduced" = some (some (.ref f_law_reduced)))
    (l_law_reduced : K.lookup f_law_reduced = some ⟨oc_law_reduced, od_law_reduced, .func (PySem.W.fnOf "_law_reduced" "_law_reduced" (defArgs s_law_reduced) (defBody s_law_reduced) (defScope s_law_reduced) .none kV_law_reduced dc_law_reduced pm_law_reduced an_law_reduced cd_law_reduced ct_law_reduced), sl_law_reduced⟩)
    (c_law_reduced : PySem.W.codeIn K cd_law_reduced "_law_reduced" = true)
    (k_law_reduced : PySem.W.keepIn K (.ref f_law_reduced) = true)
    (a_law_sets : PySem.W.nsIn K mainGlobals "_law_sets" = some (some (.ref f_law_sets)))
    (l_law_sets : K.lookup f_law_sets = some ⟨oc_law_sets, od_law_sets, .func (PySem.W.fnOf "_law_sets" "_law_sets" (defArgs s_law_sets) (defBody s_law_sets) (defScope s_law_sets) .none kV_law_sets dc_law_sets pm_law_sets an_law_sets cd_law_sets ct_law_sets), sl_law_sets⟩)
    (c_law_sets : PySem.W.codeIn K cd_law_sets "_law_sets" = true)
    (k_law_sets : PySem.W.keepIn K (.ref f_law_sets) = true)
    (a_law_tree : PySem.W.nsIn K mainGlobals "_law_tree" = some (some (.ref f_law_tree)))
    (l_law_tree : K.lookup f_law_tree = some ⟨oc_law_tree, od_law_tree, .func (PySem.W.fnOf "_law_tree" "_law_tree" (defArgs s_law_tree) (defBody s_law_tree) (defScope s_law_tree) .none kV_law_tree dc_law_tree pm_law_tree an_law_tree cd_law_tree ct_law_tree), sl_law_tree⟩)
    (c_law_tree : PySem.W.codeIn K cd_law_tree "_law_tree" = true)
    (k_law_tree : PySem.W.keepIn K (.ref f_law_tree) = true)
    (a_law_game : PySem.W.nsIn K mainGlobals "_law_game" = some (some (.ref f_law_game)))
    (l_law_game : K.lookup f_law_game = some ⟨oc_law_game, od_law_game, .func (PySem.W.fnOf "_law_game" "_law_game" (defArgs s_law_game) (defBody s_law_game) (defScope s_law_game) .none kV_law_game dc_law_game pm_law_game an_law_game cd_law_game ct_law_game), sl_law_game⟩)
    (c_law_game : PySem.W.codeIn K cd_law_game "_law_game" = true)
    (k_law_game : PySem.W.keepIn K (.ref f_law_game) = true)
    (a_law_plain : PySem.W.nsIn K mainGlobals "_law_plain" = some (some (.ref f_law_plain)))
    (l_law_plain : K.lookup f_law_plain = some ⟨oc_law_plain, od_law_plain, .func (PySem.W.fnOf "_law_plain" "_law_plain" (defArgs s_law_plain) (defBody s_law_plain) (defScope s_law_plain) .none kV_law_plain dc_law_plain pm_law_plain an_law_plain cd_law_plain ct_law_plain), sl_law_plain⟩)
    (c_law_plain : PySem.W.codeIn K cd_law_plain "_law_plain" = true)
    (k_law_plain : PySem.W.keepIn K (.ref f_law_plain) = true)
    (a_law_bad_name : PySem.W.nsIn K mainGlobals "_law_bad_name" = some (some (.ref f_law_bad_name)))
    (l_law_bad_name : K.lookup f_law_bad_name = some ⟨oc_law_bad_name, od_law_bad_name, .func (PySem.W.fnOf "_law_bad_name" "_law_bad_name" (defArgs s_law_bad_name) (defBody s_law_bad_name) (defScope s_law_bad_name) .none kV_law_bad_name dc_law_bad_name pm_law_bad_name an_law_bad_name cd_law_bad_name ct_law_bad_name), sl_law_bad_name⟩)
    (c_law_bad_name : PySem.W.codeIn K cd_law_bad_name "_law_bad_name" = true)
    (k_law_bad_name : PySem.W.keepIn K (.ref f_law_bad_name) = true)
    (a_law_spoilt_rows : PySem.W.nsIn K mainGlobals "_law_spoilt_rows" = some (some (.ref f_law_spoilt_rows)))
    (l_law_spoilt_rows : K.lookup f_law_spoilt_rows = some ⟨oc_law_spoilt_rows, od_law_spoilt_rows, .func (PySem.W.fnOf "_law_spoilt_rows" "_law_spoilt_rows" (defArgs s_law_spoilt_rows) (defBody s_law_spoilt_rows) (defScope s_law_spoilt_rows) .none kV_law_spoilt_rows dc_law_spoilt_rows pm_law_spoilt_rows an_law_spoilt_rows cd_law_spoilt_rows ct_law_spoilt_rows), sl_law_spoilt_rows⟩)
    (c_law_spoilt_rows : PySem.W.codeIn K cd_law_spoilt_rows "_law_spoilt_rows" = true)
    (k_law_spoilt_rows : PySem.W.keepIn K (.ref f_law_spoilt_rows) = true)
    (a_law_spoilt_tree : PySem.W.nsIn K mainGlobals "_law_spoilt_tree" = some (some (.ref f_law_spoilt_tree)))
    (l_law_spoilt_tree : K.lookup f_law_spoilt_tree = some ⟨oc_law_spoilt_tree, od_law_spoilt_tree, .func (PySem.W.fnOf "_law_spoilt_tree" "_law_spoilt_tree" (defArgs s_law_spoilt_tree) (defBody s_law_spoilt_tree) (defScope s_law_spoilt_tree) .none kV_law_spoilt_tree dc_law_spoilt_tree pm_law_spoilt_tree an_law_spoilt_tree cd_law_spoilt_tree ct_law_spoilt_tree), sl_law_spoilt_tree⟩)
    (c_law_spoilt_tree : PySem.W.codeIn K cd_law_spoilt_tree "_law_spoilt_tree" = true)
    (k_law_spoilt_tree : PySem.W.keepIn K (.ref f_law_spoilt_tree) = true)
    (a_law_is_name : PySem.W.nsIn K mainGlobals "_law_is_name" = some (some (.ref f_law_is_name)))
    (l_law_is_name : K.lookup f_law_is_name = some ⟨oc_law_is_name, od_law_is_name, .func (PySem.W.fnOf "_law_is_name" "_law_is_name" (defArgs s_law_is_name) (defBody s_law_is_name) (defScope s_law_is_name) .none kV_law_is_name dc_law_is_name pm_law_is_name an_law_is_name cd_law_is_name ct_law_is_name), sl_law_is_name⟩)
    (c_law_is_name : PySem.W.codeIn K cd_law_is_name "_law_is_name" = true)
    (k_law_is_name : PySem.W.keepIn K (.ref f_law_is_name) = true)
    (a_law_row_fault : PySem.W.nsIn K mainGlobals "_law_row_fault" = some (some (.ref f_law_row_fault)))
    (l_law_row_fault : K.lookup f_law_row_fault = some ⟨oc_law_row_fault, od_law_row_fault, .func (PySem.W.fnOf "_law_row_fault" "_law_row_fault" (defArgs s_law_row_fault) (defBody s_law_row_fault) (defScope s_law_row_fault) .none kV_law_row_fault dc_law_row_fault pm_law_row_fault an_law_row_fault cd_law_row_fault ct_law_row_fault), sl_law_row_fault⟩)
    (c_law_row_fault : PySem.W.codeIn K cd_law_row_fault "_law_row_fault" = true)
    (k_law_row_fault : PySem.W.keepIn K (.ref f_law_row_fault) = true)
    (a_law_node_fault : PySem.W.nsIn K mainGlobals "_law_node_fault" = some (some (.ref f_law_node_fault)))
    (l_law_node_fault : K.lookup f_law_node_fault = some ⟨oc_law_node_fault, od_law_node_fault, .func (PySem.W.fnOf "_law_node_fault" "_law_node_fault" (defArgs s_law_node_fault) (defBody s_law_node_fault) (defScope s_law_node_fault) .none kV_law_node_fault dc_law_node_fault pm_law_node_fault an_law_node_fault cd_law_node_fault ct_law_node_fault), sl_law_node_fault⟩)
    (c_law_node_fault : PySem.W.codeIn K cd_law_node_fault "_law_node_fault" = true)
    (k_law_node_fault : PySem.W.keepIn K (.ref f_law_node_fault) = true)
    (a_law_due : PySem.W.nsIn K mainGlobals "_law_due" = some (some (.ref f_law_due)))
    (l_law_due : K.lookup f_law_due = some ⟨oc_law_due, od_law_due, .func (PySem.W.fnOf "_law_due" "_law_due" (defArgs s_law_due) (defBody s_law_due) (defScope s_law_due) .none kV_law_due dc_law_due pm_law_due an_law_due cd_law_due ct_law_due), sl_law_due⟩)
    (c_law_due : PySem.W.codeIn K cd_law_due "_law_due" = true)
    (k_law_due : PySem.W.keepIn K (.ref f_law_due) = true)
    (a_law_size : PySem.W.nsIn K mainGlobals "_law_size" = some (some (.ref f_law_size)))
    (l_law_size : K.lookup f_law_size = some ⟨oc_law_size, od_law_size, .func (PySem.W.fnOf "_law_size" "_law_size" (defArgs s_law_size) (defBody s_law_size) (defScope s_law_size) .none kV_law_size dc_law_size pm_law_size an_law_size cd_law_size ct_law_size), sl_law_size⟩)
    (c_law_size : PySem.W.codeIn K cd_law_size "_law_size" = true)
    (k_law_size : PySem.W.keepIn K (.ref f_law_size) = true)
    (a_law_spine : PySem.W.nsIn K mainGlobals "_law_spine" = some (some (.ref f_law_spine)))
    (l_law_spine : K.lookup f_law_spine = some ⟨oc_law_spine, od_law_spine, .func (PySem.W.fnOf "_law_spine" "_law_spine" (defArgs s_law_spine) (defBody s_law_spine) (defScope s_law_spine) .none kV_law_spine dc_law_spine pm_law_spine an_law_spine cd_law_spine ct_law_spine), sl_law_spine⟩)
    (c_law_spine : PySem.W.codeIn K cd_law_spine "_law_spine" = true)
    (k_law_spine : PySem.W.keepIn K (.ref f_law_spine) = true)
    (a_law_wide : PySem.W.nsIn K mainGlobals "_law_wide" = some (some (.ref f_law_wide)))
    (l_law_wide : K.lookup f_law_wide = some ⟨oc_law_wide, od_law_wide, .func (PySem.W.fnOf "_law_wide" "_law_wide" (defArgs s_law_wide) (defBody s_law_wide) (defScope s_law_wide) .none kV_law_wide dc_law_wide pm_law_wide an_law_wide cd_law_wide ct_law_wide), sl_law_wide⟩)
    (c_law_wide : PySem.W.codeIn K cd_law_wide "_law_wide" = true)
    (k_law_wide : PySem.W.keepIn K (.ref f_law_wide) = true)
    (a_law_spoilt : PySem.W.nsIn K mainGlobals "_law_spoilt" = some (some (.ref f_law_spoilt)))
    (l_law_spoilt : K.lookup f_law_spoilt = some ⟨oc_law_spoilt, od_law_spoilt, .func (PySem.W.fnOf "_law_spoilt" "_law_spoilt" (defArgs s_law_spoilt) (defBody s_law_spoilt) (defScope s_law_spoilt) .none kV_law_spoilt dc_law_spoilt pm_law_spoilt an_law_spoilt cd_law_spoilt ct_law_spoilt), sl_law_spoilt⟩)
    (c_law_spoilt : PySem.W.codeIn K cd_law_spoilt "_law_spoilt" = true)
    (k_law_spoilt : PySem.W.keepIn K (.ref f_law_spoilt) = true)
    (a_law_agrees : PySem.W.nsIn K mainGlobals "_law_agrees" = some (some (.ref f_law_agrees)))
    (l_law_agrees : K.lookup f_law_agrees = some ⟨oc_law_agrees, od_law_agrees, .func (PySem.W.fnOf "_law_agrees" "_law_agrees" (defArgs s_law_agrees) (defBody s_law_agrees) (defScope s_law_agrees) .none kV_law_agrees dc_law_agrees pm_law_agrees an_law_agrees cd_law_agrees ct_law_agrees), sl_law_agrees⟩)
    (c_law_agrees : PySem.W.codeIn K cd_law_agrees "_law_agrees" = true)
    (k_law_agrees : PySem.W.keepIn K (.ref f_law_agrees) = true)
    (a_law : PySem.W.nsIn K mainGlobals "law" = some (some (.ref f_law)))
    (l_law : K.lookup f_law = some ⟨oc_law, od_law, .func (PySem.W.fnOf "law" "law" (defArgs s_law) (defBody s_law) (defScope s_law) .none kV_law dc_law pm_law an_law cd_law ct_law), sl_law⟩)
    (c_law : PySem.W.codeIn K cd_law "law" = true)
    (k_law : PySem.W.keepIn K (.ref f_law) = true)
    (xL_BadGame : K.lookup C_BadGame = some (PySem.excClassObj nm_BadGame q_BadGame C_BadGame N_BadGame bs_BadGame bm_BadGame true sn_BadGame sub_BadGame ab_BadGame col_BadGame dd_BadGame k0_BadGame k1_BadGame k2_BadGame k3_BadGame k5_BadGame "ValueError.__new__"))
    (xR_BadGame : PySem.HandSPX.refsVE bm_BadGame = true)
    (xsa_BadGame : PySem.W.findIn K (.ref C_BadGame) "__setattr__" = some (some (.builtin "object.__setattr__")))
    (xga_BadGame : PySem.W.findIn K (.ref C_BadGame) "__getattribute__" = some (some (.builtin "BaseException.__getattribute__")))
    (xgg_BadGame : PySem.W.findIn K (.ref C_BadGame) "__getattr__" = some none)
    (xnn_BadGame : PySem.W.findIn K (.ref C_BadGame) "fault" = some none)
    (xiC_BadGame : PySem.W.findIn K (.ref C_BadGame) "__init__" = some (some (.ref fI_BadGame)))
    (xtC_BadGame : PySem.W.typeIn K (.ref fI_BadGame) = some (.type "function"))
    (xkC_BadGame : PySem.W.keepIn K (.ref C_BadGame) = true)
    (xeC_BadGame : PySem.W.subIn K (.ref C_BadGame) (.type "BaseException") = some true)
    (xyC_BadGame : PySem.W.typeIn K (.ref C_BadGame) = some (.type "type"))
    (xhC_BadGame : PySem.W.hasDictIn K C_BadGame = true)
    (xmC_BadGame : PySem.W.mroIn K C_BadGame (.ref C_BadGame) = some true)
    (xho_BadGame : PySem.W.nsIn K cStatics "thirdparty.any" = some none)
    (xhm_BadGame : PySem.W.ks_superIn K C_BadGame C_BadGame "__init__" = some (some (.builtin "ValueError.__init__")))
    (xhB_BadGame : PySem.W.subIn K (.ref C_BadGame) (.type "ValueError") = some true)
    (xtop_BadGame : (rwL.prog.main.scope.names.lookup ("super" : Str)).isSome = false)
    (xfn_BadGame : K.lookup fI_BadGame = some ⟨xoc_BadGame, xod_BadGame, .func (PySem.W.ksFn "__init__" "BadGame.__init__" (PLX.iA "fault" p1_BadGame p2_BadGame) (PLX.iB "fault" xmsg_BadGame xj_BadGame a1_BadGame a2_BadGame a3_BadGame a4_BadGame a5_BadGame a6_BadGame q1_BadGame q2_BadGame q3_BadGame q4_BadGame) (PLX.iS "fault") .none .none xdoc_BadGame xpm_BadGame xan_BadGame (.ref xcda_BadGame) xct_BadGame xcc_BadGame), xsl_BadGame⟩)
    (xcd_BadGame : PySem.W.codeIn K (.ref xcda_BadGame) "BadGame.__init__" = true)
    (xca_BadGame : K.lookup xcda_BadGame = some ⟨xccl_BadGame, xcdd_BadGame, .fields xvs_BadGame, xccs_BadGame⟩)
    (xvf_BadGame : xvs_BadGame[2]? = some (.str xfile_BadGame xtf_BadGame))
    (xfe_BadGame : ((rwL.prog.main.file : Str) == xfile_BadGame) = true)
    (xce_BadGame : K.lookup xcc_BadGame = some ⟨xcl_BadGame, xcld_BadGame, .cell (some (.ref C_BadGame)), xcsl_BadGame⟩)
    (xsu_BadGame : PLX.SupOk "fault" "BadGame.__init__" xmsg_BadGame xj_BadGame a1_BadGame a2_BadGame a3_BadGame a4_BadGame a5_BadGame a6_BadGame)
    (te_BadGame : PySem.W.exmOne K (.ref C_BadGame) (.ref C_BadGame) = some true)
    (i0_BadGame : (PySem.W.clsIn K C_BadGame).isSome = true)
    (i1_BadGame : PySem.W.findIn K (.ref C_BadGame) "__getattribute__" = some (some (.builtin "BaseException.__getattribute__")))
    (i2_BadGame : PySem.W.findIn K (.ref C_BadGame) "__getattr__" = some none)
    (i3_BadGame : PySem.W.subIn K (.ref C_BadGame) (.type "BaseException") = some true)
    (i4_BadGame : PySem.W.findIn K (.ref C_BadGame) "__class__" = some (some (.builtin "object.__class__")))
    (i5_BadGame : PySem.W.specialIn K (.builtin "object.__class__") "__get__" = some (some (.builtin "getset_descriptor.__get__")))
    (i6_BadGame : PySem.W.takesIn K (.builtin "object.__class__") = some true)
    (i7_BadGame : PySem.W.mroIn K C_BadGame (.type "object") = some true)
    (kit_BadGame_BadDerivation : PySem.W.kitOne K (.ref C_BadGame) (.ref C_BadDerivation) = some false)
    (kit_BadGame_BadPath : PySem.W.kitOne K (.ref C_BadGame) (.ref C_BadPath) = some false)
    (kit_BadGame_BadStep : PySem.W.kitOne K (.ref C_BadGame) (.ref C_BadStep) = some false)
    (kit_BadGame_BadText : PySem.W.kitOne K (.ref C_BadGame) (.ref C_BadText) = some false)
    (kit_BadGame_GameError : PySem.W.kitOne K (.ref C_BadGame) (.ref C_GameError) = some true)
    (kit_BadGame_NameTaken : PySem.W.kitOne K (.ref C_BadGame) (.ref C_NameTaken) = some false)
    (kit_BadGame_NamesMeet : PySem.W.kitOne K (.ref C_BadGame) (.ref C_NamesMeet) = some false)
    (kit_BadGame_NoMatch : PySem.W.kitOne K (.ref C_BadGame) (.ref C_NoMatch) = some false)
    (kit_BadGame_NotLeveled : PySem.W.kitOne K (.ref C_BadGame) (.ref C_NotLeveled) = some false)
    (kit_BadGame_UnknownName : PySem.W.kitOne K (.ref C_BadGame) (.ref C_UnknownName) = some false)
    (kit_BadGame_ValueError : PySem.W.kitOne K (.ref C_BadGame) (.type "ValueError") = some true) :
    ∃ fd : FuncData, (∀ (s : Shared) (v : Value), BindsTo s fd ⟨[v], []⟩ [("script", v)]) ∧ ∀ base : Heap, K.In base → base.Ns mainGlobals mg → FnOk rwL.prog w K mg base CX0 66 fa fd ["script"] (spScr K m_law) := by
  have e := hfa.symm.trans (PySem.W.mg_of X G a_law)
  cases e
  have B : Blt mg := { b_ValueError := PySem.W.mg_none_of X G z_ValueError, b_abs := PySem.W.mg_none_of X G z_abs, b_bool := PySem.W.mg_none_of X G z_bool, b_enumerate := PySem.W.mg_none_of X G z_enumerate, b_int := PySem.W.mg_none_of X G z_int, b_isinstance := PySem.W.mg_none_of X G z_isinstance, b_len := PySem.W.mg_none_of X G z_len, b_list := PySem.W.mg_none_of X G z_list, b_max := PySem.W.mg_none_of X G z_max, b_min := PySem.W.mg_none_of X G z_min, b_range := PySem.W.mg_none_of X G z_range, b_sorted := PySem.W.mg_none_of X G z_sorted, b_str := PySem.W.mg_none_of X G z_str, b_sum := PySem.W.mg_none_of X G z_sum, b_tuple := PySem.W.mg_none_of X G z_tuple, g_gcd := PySem.W.mg_of X G z_gcd, c_DIGITS := ⟨_, PySem.W.mg_of X G z_DIGITS⟩, c_LETTERS := ⟨_, PySem.W.mg_of X G z_LETTERS⟩, c_LONGEST_NAME := ⟨_, PySem.W.mg_of X G z_LONGEST_NAME⟩, c_MOST_MOVES := ⟨_, PySem.W.mg_of X G z_MOST_MOVES⟩ }
  have d_reduced : DefOf K mg "reduced" s_reduced ["weights"] := defOf_mk X G a_reduced l_reduced c_reduced k_reduced fun _ _ _ _ _ _ us hl => match us, hl with | [_], _ => rfl
  have d_is_name : DefOf K mg "is_name" s_is_name ["word"] := defOf_mk X G a_is_name l_is_name c_is_name k_is_name fun _ _ _ _ _ _ us hl => match us, hl with | [_], _ => rfl
  have d_row_of : DefOf K mg "row_of" s_row_of ["game", "name"] := defOf_mk X G a_row_of l_row_of c_row_of k_row_of fun _ _ _ _ _ _ us hl => match us, hl with | [_, _], _ => rfl
  have d_are_weights : DefOf K mg "are_weights" s_are_weights ["owner", "weights"] := defOf_mk X G a_are_weights l_are_weights c_are_weights k_are_weights fun _ _ _ _ _ _ us hl => match us, hl with | [_, _], _ => rfl
  have d_row_fault : DefOf K mg "_row_fault" s_row_fault ["sets", "index"] := defOf_mk X G a_row_fault l_row_fault c_row_fault k_row_fault fun _ _ _ _ _ _ us hl => match us, hl with | [_, _], _ => rfl
  have d_node_fault : DefOf K mg "_node_fault" s_node_fault ["game", "node", "path", "passed"] := defOf_mk X G a_node_fault l_node_fault c_node_fault k_node_fault fun _ _ _ _ _ _ us hl => match us, hl with | [_, _, _, _], _ => rfl
  have d_first_fault : DefOf K mg "first_fault" s_first_fault ["game"] := defOf_mk X G a_first_fault l_first_fault c_first_fault k_first_fault fun _ _ _ _ _ _ us hl => match us, hl with | [_], _ => rfl
  have d_check_game : DefOf K mg "check_game" s_check_game ["game"] := defOf_mk X G a_check_game l_check_game c_check_game k_check_game fun _ _ _ _ _ _ us hl => match us, hl with | [_], _ => rfl
  have d_law_source : DefOf K mg "_law_source" s_law_source ["script"] := defOf_mk X G a_law_source l_law_source c_law_source k_law_source fun _ _ _ _ _ _ us hl => match us, hl with | [_], _ => rfl
  have d_law_draw : DefOf K mg "_law_draw" s_law_draw ["script", "source", "limit"] := defOf_mk X G a_law_draw l_law_draw c_law_draw k_law_draw fun _ _ _ _ _ _ us hl => match us, hl with | [_, _, _], _ => rfl
  have d_law_name : DefOf K mg "_law_name" s_law_name ["script", "source", "used"] := defOf_mk X G a_law_name l_law_name c_law_name k_law_name fun _ _ _ _ _ _ us hl => match us, hl with | [_, _, _], _ => rfl
  have d_law_gcd : DefOf K mg "_law_gcd" s_law_gcd ["a", "b"] := defOf_mk X G a_law_gcd l_law_gcd c_law_gcd k_law_gcd fun _ _ _ _ _ _ us hl => match us, hl with | [_, _], _ => rfl
  have d_law_reduced : DefOf K mg "_law_reduced" s_law_reduced ["weights"] := defOf_mk X G a_law_reduced l_law_reduced c_law_reduced k_law_reduced fun _ _ _ _ _ _ us hl => match us, hl with | [_], _ => rfl
  have d_law_sets : DefOf K mg "_law_sets" s_law_sets ["script", "source", "many", "most"] := defOf_mk X G a_law_sets l_law_sets c_law_sets k_law_sets fun _ _ _ _ _ _ us hl => match us, hl with | [_, _, _, _], _ => rfl
  have d_law_tree : DefOf K mg "_law_tree" s_law_tree ["script", "source", "free", "outcomes", "room", "wish"] := defOf_mk X G a_law_tree l_law_tree c_law_tree k_law_tree fun _ _ _ _ _ _ us hl => match us, hl with | [_, _, _, _, _, _], _ => rfl
  have d_law_game : DefOf K mg "_law_game" s_law_game ["script", "source", "many", "most", "nodes"] := defOf_mk X G a_law_game l_law_game c_law_game k_law_game fun _ _ _ _ _ _ us hl => match us, hl with | [_, _, _, _, _], _ => rfl
  have d_law_plain : DefOf K mg "_law_plain" s_law_plain ["answer"] := defOf_mk X G a_law_plain l_law_plain c_law_plain k_law_plain fun _ _ _ _ _ _ us hl => match us, hl with | [_], _ => rfl
  have d_law_bad_name : DefOf K mg "_law_bad_name" s_law_bad_name ["script", "source"] := defOf_mk X G a_law_bad_name l_law_bad_name c_law_bad_name k_law_bad_name fun _ _ _ _ _ _ us hl => match us, hl with | [_, _], _ => rfl
  have d_law_spoilt_rows : DefOf K mg "_law_spoilt_rows" s_law_spoilt_rows ["script", "source", "rows"] := defOf_mk X G a_law_spoilt_rows l_law_spoilt_rows c_law_spoilt_rows k_law_spoilt_rows fun _ _ _ _ _ _ us hl => match us, hl with | [_, _, _], _ => rfl
  have d_law_spoilt_tree : DefOf K mg "_law_spoilt_tree" s_law_spoilt_tree ["script", "source", "rows", "tree", "names", "left"] := defOf_mk X G a_law_spoilt_tree l_law_spoilt_tree c_law_spoilt_tree k_law_spoilt_tree fun _ _ _ _ _ _ us hl => match us, hl with | [_, _, _, _, _, _], _ => rfl
  have d_law_is_name : DefOf K mg "_law_is_name" s_law_is_name ["word"] := defOf_mk X G a_law_is_name l_law_is_name c_law_is_name k_law_is_name fun _ _ _ _ _ _ us hl => match us, hl with | [_], _ => rfl
  have d_law_row_fault : DefOf K mg "_law_row_fault" s_law_row_fault ["rows", "at"] := defOf_mk X G a_law_row_fault l_law_row_fault c_law_row_fault k_law_row_fault fun _ _ _ _ _ _ us hl => match us, hl with | [_, _], _ => rfl
  have d_law_node_fault : DefOf K mg "_law_node_fault" s_law_node_fault ["rows", "tree", "path", "names"] := defOf_mk X G a_law_node_fault l_law_node_fault c_law_node_fault k_law_node_fault fun _ _ _ _ _ _ us hl => match us, hl with | [_, _, _, _], _ => rfl
  have d_law_due : DefOf K mg "_law_due" s_law_due ["rows", "tree"] := defOf_mk X G a_law_due l_law_due c_law_due k_law_due fun _ _ _ _ _ _ us hl => match us, hl with | [_, _], _ => rfl
  have d_law_size : DefOf K mg "_law_size" s_law_size ["tree"] := defOf_mk X G a_law_size l_law_size c_law_size k_law_size fun _ _ _ _ _ _ us hl => match us, hl with | [_], _ => rfl
  have d_law_spine : DefOf K mg "_law_spine" s_law_spine ["script", "source", "free", "outcomes", "room", "deep"] := defOf_mk X G a_law_spine l_law_spine c_law_spine k_law_spine fun _ _ _ _ _ _ us hl => match us, hl with | [_, _, _, _, _, _], _ => rfl
  have d_law_wide : DefOf K mg "_law_wide" s_law_wide ["script", "source"] := defOf_mk X G a_law_wide l_law_wide c_law_wide k_law_wide fun _ _ _ _ _ _ us hl => match us, hl with | [_, _], _ => rfl
  have d_law_spoilt : DefOf K mg "_law_spoilt" s_law_spoilt ["script", "source", "game"] := defOf_mk X G a_law_spoilt l_law_spoilt c_law_spoilt k_law_spoilt fun _ _ _ _ _ _ us hl => match us, hl with | [_, _, _], _ => rfl
  have d_law_agrees : DefOf K mg "_law_agrees" s_law_agrees ["rows", "tree"] := defOf_mk X G a_law_agrees l_law_agrees c_law_agrees k_law_agrees fun _ _ _ _ _ _ us hl => match us, hl with | [_, _], _ => rfl
  have d_law : DefOf K mg "law" s_law ["script"] := defOf_mk X G a_law l_law c_law k_law fun _ _ _ _ _ _ us hl => match us, hl with | [_], _ => rfl
  have x_BadGame : PLX.XTxt rwL.prog K mg "BadGame" C_BadGame fI_BadGame "fault" "BadGame.__init__" := { gC := PySem.W.mg_of X G g_BadGame, cls := ⟨_, _, _, _, _, _, _, _, _, _, _, _, _, _, _, xL_BadGame, xR_BadGame⟩, sa := xsa_BadGame, ga := xga_BadGame, gg := xgg_BadGame, noN := xnn_BadGame, iC := xiC_BadGame, tC := xtC_BadGame, kC := xkC_BadGame, exC := xeC_BadGame, tyC := xyC_BadGame, hdC := xhC_BadGame, mC := xmC_BadGame, su := PySem.W.mg_none_of X G z_super, ho := xho_BadGame, hm := xhm_BadGame, hB := xhB_BadGame, top := xtop_BadGame, fok := PLX.fld_fault, fn := ⟨_, _, _, _, _, _, _, _, _, _, _, _, _, _, _, _, _, _, _, _, _, _, _, _, _, _, _, _, _, _, _, _, xsu_BadGame, xfn_BadGame, xcd_BadGame, xca_BadGame, xvf_BadGame, xfe_BadGame, xce_BadGame⟩ }
  have is_BadGame : IsC K C_BadGame := ⟨i0_BadGame, i1_BadGame, i2_BadGame, i3_BadGame, i4_BadGame, i5_BadGame, i6_BadGame, i7_BadGame⟩
  have T : ∀ base : Heap, Has rwL.prog w K mg base "law" ["script"] 66 m_law := fun base => by
    have h_reduced := has_reduced (P := rwL.prog) (w := w) (base := base) B d_reduced
    have h_is_name := has_is_name (P := rwL.prog) (w := w) (base := base) B d_is_name
    have h_row_of := has_row_of (P := rwL.prog) (w := w) (base := base) B d_row_of
    have h_are_weights := has_are_weights (P := rwL.prog) (w := w) (base := base) B d_are_weights h_reduced
    have h_row_fault := has_row_fault (P := rwL.prog) (w := w) (base := base) B d_row_fault h_is_name h_are_weights
    have h_node_fault := has_node_fault (P := rwL.prog) (w := w) (base := base) B d_node_fault h_is_name h_row_of
    have h_first_fault := has_first_fault (P := rwL.prog) (w := w) (base := base) B d_first_fault h_row_fault h_node_fault
    have h_check_game := has_check_game (P := rwL.prog) (w := w) (base := base) B d_check_game x_BadGame h_first_fault
    have h_law_source := has_law_source (P := rwL.prog) (w := w) (base := base) B d_law_source
    have h_law_draw := has_law_draw (P := rwL.prog) (w := w) (base := base) B d_law_draw
    have h_law_name := has_law_name (P := rwL.prog) (w := w) (base := base) B d_law_name h_law_draw
    have h_law_gcd := has_law_gcd (P := rwL.prog) (w := w) (base := base) B d_law_gcd
    have h_law_reduced := has_law_reduced (P := rwL.prog) (w := w) (base := base) B d_law_reduced h_law_gcd
    have h_law_sets := has_law_sets (P := rwL.prog) (w := w) (base := base) B d_law_sets h_law_draw h_law_name h_law_reduced
    have h_law_tree := has_law_tree (P := rwL.prog) (w := w) (base := base) B d_law_tree h_law_draw
    have h_law_game := has_law_game (P := rwL.prog) (w := w) (base := base) B d_law_game h_law_draw h_law_name h_law_sets h_law_tree
    have h_law_plain := has_law_plain (P := rwL.prog) (w := w) (base := base) B d_law_plain
    have h_law_bad_name := has_law_bad_name (P := rwL.prog) (w := w) (base := base) B d_law_bad_name h_law_draw
    have h_law_spoilt_rows := has_law_spoilt_rows (P := rwL.prog) (w := w) (base := base) B d_law_spoilt_rows h_law_draw h_law_bad_name
    have h_law_spoilt_tree := has_law_spoilt_tree (P := rwL.prog) (w := w) (base := base) B d_law_spoilt_tree h_law_draw h_law_name h_law_bad_name
    have h_law_is_name := has_law_is_name (P := rwL.prog) (w := w) (base := base) B d_law_is_name
    have h_law_row_fault := has_law_row_fault (P := rwL.prog) (w := w) (base := base) B d_law_row_fault h_law_gcd h_law_is_name
    have h_law_node_fault := has_law_node_fault (P := rwL.prog) (w := w) (base := base) B d_law_node_fault h_law_is_name
    have h_law_due := has_law_due (P := rwL.prog) (w := w) (base := base) B d_law_due h_law_row_fault h_law_node_fault
    have h_law_size := has_law_size (P := rwL.prog) (w := w) (base := base) B d_law_size
    have h_law_spine := has_law_spine (P := rwL.prog) (w := w) (base := base) B d_law_spine h_law_draw
    have h_law_wide := has_law_wide (P := rwL.prog) (w := w) (base := base) B d_law_wide h_law_draw h_law_name h_law_reduced h_law_spine
    have h_law_spoilt := has_law_spoilt (P := rwL.prog) (w := w) (base := base) B d_law_spoilt h_law_draw h_law_spoilt_rows h_law_spoilt_tree h_law_size
    have h_law_agrees := has_law_agrees (P := rwL.prog) (w := w) (base := base) B d_law_agrees x_BadGame te_BadGame is_BadGame (PySem.W.mg_of X G g_BadDerivation) (PySem.W.mg_of X G g_BadPath) (PySem.W.mg_of X G g_BadStep) (PySem.W.mg_of X G g_BadText) (PySem.W.mg_of X G g_GameError) (PySem.W.mg_of X G g_NameTaken) (PySem.W.mg_of X G g_NamesMeet) (PySem.W.mg_of X G g_NoMatch) (PySem.W.mg_of X G g_NotLeveled) (PySem.W.mg_of X G g_UnknownName) kit_BadGame_BadDerivation kit_BadGame_BadPath kit_BadGame_BadStep kit_BadGame_BadText kit_BadGame_GameError kit_BadGame_NameTaken kit_BadGame_NamesMeet kit_BadGame_NoMatch kit_BadGame_NotLeveled kit_BadGame_UnknownName kit_BadGame_ValueError h_first_fault h_check_game h_law_plain h_law_due
    have h_law := has_law (P := rwL.prog) (w := w) (base := base) B d_law h_law_source h_law_draw h_law_game h_law_wide h_law_spoilt h_law_agrees
    exact h_law
  refine ⟨PySem.W.fnOf "law" "law" (defArgs s_law) (defBody s_law) (defScope s_law) .none kV_law dc_law pm_law an_law cd_law ct_law, fun s v => .of_eq rfl, fun base _ _ => ?_⟩
  obtain ⟨f, fd, ok, hm, _, _, fdat⟩ := (T base).ex
  have e2 := hm.symm.trans (PySem.W.mg_of X G a_law)
  cases e2
  obtain rfl := fdat.inj ⟨_, _, _, l_law⟩
  exact FnOk_scr ok law_ok
end PL
/-! printed by genend.py: the end -/
open PySem PySem.W PyProof.Rows
set_option maxRecDepth 100000 in
set_option maxHeartbeats 0 in
theorem PySem.Challenge.cw_sequencesandadvice_k87_first_fault_holds : PySem.Challenge.rw_sequencesandadvice_k87_first_fault.Holds := by
  w_on; o_law; k_head; (case hw => w_witness2)
  k_fill
  refine PL.walk_scr (k := 66) (m := PL.m_law) (l := PySem.Challenge.rw_sequencesandadvice_k87_first_fault) rfl rfl ⟨rfl, by decide, by decide⟩ (fun w h Y => PySem.W.kIn_of Y) ?F
  case F =>
    intro w mg fa h KX G hmg
    refine' PL.end_mk KX G hmg ?z_ValueError ?z_abs ?z_bool ?z_enumerate ?z_int ?z_isinstance ?z_len ?z_list ?z_max ?z_min ?z_range ?z_sorted ?z_str ?z_sum ?z_tuple ?z_super ?z_gcd ?z_DIGITS ?z_LETTERS ?z_LONGEST_NAME ?z_MOST_MOVES ?g_BadDerivation ?g_BadGame ?g_BadPath ?g_BadStep ?g_BadText ?g_GameError ?g_NameTaken ?g_NamesMeet ?g_NoMatch ?g_NotLeveled ?g_UnknownName ?a_reduced ?l_reduced ?c_reduced ?k_reduced ?a_is_name ?l_is_name ?c_is_name ?k_is_name ?a_row_of ?l_row_of ?c_row_of ?k_row_of ?a_are_weights ?l_are_weights ?c_are_weights ?k_are_weights ?a_row_fault ?l_row_fault ?c_row_fault ?k_row_fault ?a_node_fault ?l_node_fault ?c_node_fault ?k_node_fault ?a_first_fault ?l_first_fault ?c_first_fault ?k_first_fault ?a_check_game ?l_check_game ?c_check_game ?k_check_game ?a_law_source ?l_law_source ?c_law_source ?k_law_source ?a_law_draw ?l_law_draw ?c_law_draw ?k_law_draw ?a_law_name ?l_law_name ?c_law_name ?k_law_name ?a_law_gcd ?l_law_gcd ?c_law_gcd ?k_law_gcd ?a_law_reduced ?l_law_reduced ?c_law_reduced ?k_law_reduced ?a_law_sets ?l_law_sets ?c_law_sets ?k_law_sets ?a_law_tree ?l_law_tree ?c_law_tree ?k_law_tree ?a_law_game ?l_law_game ?c_law_game ?k_law_game ?a_law_plain ?l_law_plain ?c_law_plain ?k_law_plain ?a_law_bad_name ?l_law_bad_name ?c_law_bad_name ?k_law_bad_name ?a_law_spoilt_rows ?l_law_spoilt_rows ?c_law_spoilt_rows ?k_law_spoilt_rows ?a_law_spoilt_tree ?l_law_spoilt_tree ?c_law_spoilt_tree ?k_law_spoilt_tree ?a_law_is_name ?l_law_is_name ?c_law_is_name ?k_law_is_name ?a_law_row_fault ?l_law_row_fault ?c_law_row_fault ?k_law_row_fault ?a_law_node_fault ?l_law_node_fault ?c_law_node_fault ?k_law_node_fault ?a_law_due ?l_law_due ?c_law_due ?k_law_due ?a_law_size ?l_law_size ?c_law_size ?k_law_size ?a_law_spine ?l_law_spine ?c_law_spine ?k_law_spine ?a_law_wide ?l_law_wide ?c_law_wide ?k_law_wide ?a_law_spoilt ?l_law_spoilt ?c_law_spoilt ?k_law_spoilt ?a_law_agrees ?l_law_agrees ?c_law_agrees ?k_law_agrees ?a_law ?l_law ?c_law ?k_law ?xL_BadGame ?xR_BadGame ?xsa_BadGame ?xga_BadGame ?xgg_BadGame ?xnn_BadGame ?xiC_BadGame ?xtC_BadGame ?xkC_BadGame ?xeC_BadGame ?xyC_BadGame ?xhC_BadGame ?xmC_BadGame ?xho_BadGame ?xhm_BadGame ?xhB_BadGame ?xtop_BadGame ?xfn_BadGame ?xcd_BadGame ?xca_BadGame ?xvf_BadGame ?xfe_BadGame ?xce_BadGame ?xsu_BadGame ?te_BadGame ?i0_BadGame ?i1_BadGame ?i2_BadGame ?i3_BadGame ?i4_BadGame ?i5_BadGame ?i6_BadGame ?i7_BadGame ?kit_BadGame_BadDerivation ?kit_BadGame_BadPath ?kit_BadGame_BadStep ?kit_BadGame_BadText ?kit_BadGame_GameError ?kit_BadGame_NameTaken ?kit_BadGame_NamesMeet ?kit_BadGame_NoMatch ?kit_BadGame_NotLeveled ?kit_BadGame_UnknownName ?kit_BadGame_ValueError
    (case z_ValueError => k_is)
    (case z_abs => k_is)
    (case z_bool => k_is)
    (case z_enumerate => k_is)
    (case z_int => k_is)
    (case z_isinstance => k_is)
    (case z_len => k_is)
    (case z_list => k_is)
    (case z_max => k_is)
    (case z_min => k_is)
    (case z_range => k_is)
    (case z_sorted => k_is)
    (case z_str => k_is)
    (case z_sum => k_is)
    (case z_tuple => k_is)
    (case z_super => k_is)
    (case z_gcd => k_is)
    (case z_DIGITS => k_is)
    (case z_LETTERS => k_is)
    (case z_LONGEST_NAME => k_is)
    (case z_MOST_MOVES => k_is)
    (case g_BadDerivation => k_is)
    (case g_BadGame => k_is)
    (case g_BadPath => k_is)
    (case g_BadStep => k_is)
    (case g_BadText => k_is)
    (case g_GameError => k_is)
    (case g_NameTaken => k_is)
    (case g_NamesMeet => k_is)
    (case g_NoMatch => k_is)
    (case g_NotLeveled => k_is)
    (case g_UnknownName => k_is)
    (case a_reduced => k_is)
    (case l_reduced => k_is)
    (case c_reduced => k_is)
    (case k_reduced => k_is)
    (case a_is_name => k_is)
    (case l_is_name => k_is)
    (case c_is_name => k_is)
    (case k_is_name => k_is)
    (case a_row_of => k_is)
    (case l_row_of => k_is)
    (case c_row_of => k_is)
    (case k_row_of => k_is)
    (case a_are_weights => k_is)
    (case l_are_weights => k_is)
    (case c_are_weights => k_is)
    (case k_are_weights => k_is)
    (case a_row_fault => k_is)
    (case l_row_fault => k_is)
    (case c_row_fault => k_is)
    (case k_row_fault => k_is)
    (case a_node_fault => k_is)
    (case l_node_fault => k_is)
    (case c_node_fault => k_is)
    (case k_node_fault => k_is)
    (case a_first_fault => k_is)
    (case l_first_fault => k_is)
    (case c_first_fault => k_is)
    (case k_first_fault => k_is)
    (case a_check_game => k_is)
    (case l_check_game => k_is)
    (case c_check_game => k_is)
    (case k_check_game => k_is)
    (case a_law_source => k_is)
    (case l_law_source => k_is)
    (case c_law_source => k_is)
    (case k_law_source => k_is)
    (case a_law_draw => k_is)
    (case l_law_draw => k_is)
    (case c_law_draw => k_is)
    (case k_law_draw => k_is)
    (case a_law_name => k_is)
    (case l_law_name => k_is)
    (case c_law_name => k_is)
    (case k_law_name => k_is)
    (case a_law_gcd => k_is)
    (case l_law_gcd => k_is)
    (case c_law_gcd => k_is)
    (case k_law_gcd => k_is)
    (case a_law_reduced => k_is)
    (case l_law_reduced => k_is)
    (case c_law_reduced => k_is)
    (case k_law_reduced => k_is)
    (case a_law_sets => k_is)
    (case l_law_sets => k_is)
    (case c_law_sets => k_is)
    (case k_law_sets => k_is)
    (case a_law_tree => k_is)
    (case l_law_tree => k_is)
    (case c_law_tree => k_is)
    (case k_law_tree => k_is)
    (case a_law_game => k_is)
    (case l_law_game => k_is)
    (case c_law_game => k_is)
    (case k_law_game => k_is)
    (case a_law_plain => k_is)
    (case l_law_plain => k_is)
    (case c_law_plain => k_is)
    (case k_law_plain => k_is)
    (case a_law_bad_name => k_is)
    (case l_law_bad_name => k_is)
    (case c_law_bad_name => k_is)
    (case k_law_bad_name => k_is)
    (case a_law_spoilt_rows => k_is)
    (case l_law_spoilt_rows => k_is)
    (case c_law_spoilt_rows => k_is)
    (case k_law_spoilt_rows => k_is)
    (case a_law_spoilt_tree => k_is)
    (case l_law_spoilt_tree => k_is)
    (case c_law_spoilt_tree => k_is)
    (case k_law_spoilt_tree => k_is)
    (case a_law_is_name => k_is)
    (case l_law_is_name => k_is)
    (case c_law_is_name => k_is)
    (case k_law_is_name => k_is)
    (case a_law_row_fault => k_is)
    (case l_law_row_fault => k_is)
    (case c_law_row_fault => k_is)
    (case k_law_row_fault => k_is)
    (case a_law_node_fault => k_is)
    (case l_law_node_fault => k_is)
    (case c_law_node_fault => k_is)
    (case k_law_node_fault => k_is)
    (case a_law_due => k_is)
    (case l_law_due => k_is)
    (case c_law_due => k_is)
    (case k_law_due => k_is)
    (case a_law_size => k_is)
    (case l_law_size => k_is)
    (case c_law_size => k_is)
    (case k_law_size => k_is)
    (case a_law_spine => k_is)
    (case l_law_spine => k_is)
    (case c_law_spine => k_is)
    (case k_law_spine => k_is)
    (case a_law_wide => k_is)
    (case l_law_wide => k_is)
    (case c_law_wide => k_is)
    (case k_law_wide => k_is)
    (case a_law_spoilt => k_is)
    (case l_law_spoilt => k_is)
    (case c_law_spoilt => k_is)
    (case k_law_spoilt => k_is)
    (case a_law_agrees => k_is)
    (case l_law_agrees => k_is)
    (case c_law_agrees => k_is)
    (case k_law_agrees => k_is)
    (case a_law => k_is)
    (case l_law => k_is)
    (case c_law => k_is)
    (case k_law => k_is)
    (case xL_BadGame => k_is)
    (case xR_BadGame => rfl)
    (case xsa_BadGame => k_is)
    (case xga_BadGame => k_is)
    (case xgg_BadGame => k_is)
    (case xnn_BadGame => k_is)
    (case xiC_BadGame => k_is)
    (case xtC_BadGame => k_is)
    (case xkC_BadGame => k_is)
    (case xeC_BadGame => k_is)
    (case xyC_BadGame => k_is)
    (case xhC_BadGame => k_is)
    (case xmC_BadGame => k_is)
    (case xho_BadGame => k_is)
    (case xhm_BadGame => kernel_rfl)
    (case xhB_BadGame => k_is)
    (case xtop_BadGame => kernel_rfl)
    (case xfn_BadGame => k_is)
    (case xcd_BadGame => k_is)
    (case xca_BadGame => k_is)
    (case xvf_BadGame => rfl)
    (case xfe_BadGame => kernel_rfl)
    (case xce_BadGame => k_is)
    (case xsu_BadGame => exact ⟨_, fun _ _ _ _ => ⟨rfl, rfl⟩⟩)
    (case te_BadGame => kernel_rfl)
    (case i0_BadGame => kernel_rfl)
    (case i1_BadGame => k_is)
    (case i2_BadGame => k_is)
    (case i3_BadGame => k_is)
    (case i4_BadGame => k_is)
    (case i5_BadGame => k_is)
    (case i6_BadGame => k_is)
    (case i7_BadGame => k_is)
    (case kit_BadGame_BadDerivation => kernel_rfl)
    (case kit_BadGame_BadPath => kernel_rfl)
    (case kit_BadGame_BadStep => kernel_rfl)
    (case kit_BadGame_BadText => kernel_rfl)
    (case kit_BadGame_GameError => kernel_rfl)
    (case kit_BadGame_NameTaken => kernel_rfl)
    (case kit_BadGame_NamesMeet => kernel_rfl)
    (case kit_BadGame_NoMatch => kernel_rfl)
    (case kit_BadGame_NotLeveled => kernel_rfl)
    (case kit_BadGame_UnknownName => kernel_rfl)
    (case kit_BadGame_ValueError => kernel_rfl)
